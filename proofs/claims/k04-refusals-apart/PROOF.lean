import PyProof.Rows.All
import Wide.All
import OpenK.AllK
import Wide.FinOn
import HandS.ForMost
import HandS.ForExc
import HandS.TupAny
import HandS.IsInst
import HandS.Wide
import HandS.Style
import HandS.Deep
import HandS.Rev
import HandS.RevTup
import HandS.Conv
import HandS.Zip
import HandS.SortKw
import HandS.TupLen
import HandS.ExcInit
import HandS.ExcField
import HandS.ExcIs
import HandS.ExcValue
import HandS.RaiseMore
import HandS.Text
import HandS.Small
import HandS.Flow
import KE.DataCmp
import KE.DataMinMax
import KE.SortData
import PySem.Challenge.RW_fewstand_k04_refusals_apart
section
set_option maxHeartbeats 8000000
set_option Elab.async false
set_option linter.all false
set_option maxRecDepth 100000
/-! A small evaluator over data, sound for the model: what is evaluated. -/
namespace Ev
open PySem L2

/-- what a name holds: nothing that is known, shared data, a list of its own -/
inductive Slot where
  | non
  | sh (d : PyData)
  | lst (ds : List PyData)
  | dct (t : Bool) (kvs : List (PyData × PyData))

abbrev Ro := List Slot

/-- how an evaluation ends -/
inductive R (A : Type) where
  | ok (a : A) (r : Ro)
  | ex (c : Nat) (fs : List (PyData × PyData)) (r : Ro)
  | bad

def R.bind {A B : Type} (x : R A) (f : A → Ro → R B) : R B :=
  match x with
  | .ok a r => f a r
  | .ex c fs r => .ex c fs r
  | .bad => .bad

inductive Op where
  | add | sub | mul | fdiv | mod | pow | neg
  | eq | ne | lt | le | gt | ge | is_ | isnot | in_ | notin
  | item | len | max2 | min2 | int_ | list_ | tuple_ | sorted | isi (t : String) | sum | sl (lo hi : Bool) | rev
  | isc (cs : List Nat) | fld (f : String) | all_ | any_ | get | maxd | lrng | repr | str_
  deriving DecidableEq

mutual
inductive CE where
  | var (i : Nat)
  | cst (d : PyData)
  | glob (x : Str) (d : PyData)
  | op (o : Op) (es : CEs)
  | tup (es : CEs)
  | lst (es : CEs)
  | not (a : CE)
  | and (a b : CE)
  | or (a b : CE)
  | chain (o p : Op) (a b c : CE)
  | lc (elt : CE) (tg : CT) (it : CI) (cond : CEs) (own : List (Str × Nat))
  | call (f : Nat) (es : CEs)
  | ref (i : Nat)
  | own (a : CE)
  | pop (i : Nat) (a : CE)
  | shr (i : Nat)
  | dnew (t : Bool)
  | xop (o : Op) (es : CEs)
  | meth (o : Op) (i : Nat) (es : CEs)
  | sl2 (a lo hi : CE)
  | xnew (c : Nat) (f : String) (a : CE)
inductive CEs where
  | nil
  | cons (e : CE) (es : CEs)
inductive CI where
  | seq (a : CE)
  | rng1 (a : CE)
  | rng2 (a b : CE)
  | prs (z : Bool) (es : CEs)
inductive CT where
  | name (i : Nat)
  | tup (ts : CTs)
inductive CTs where
  | nil
  | cons (t : CT) (ts : CTs)
end

mutual
inductive CS where
  | set (t : CT) (e : CE)
  | setLc (i : Nat) (e : CE)
  | move (i j : Nat)
  | aug (i : Nat) (o : Op) (e : CE)
  | ite (c : CE) (a b : CSs)
  | for_ (t : CT) (it : CI) (b : CSs)
  | while_ (c : CE) (b : CSs)
  | ret (e : CE)
  | expr (e : CE)
  | append (i : Nat) (e : CE)
  | extend (i : Nat) (e : CE)
  | setItem (i : Nat) (k e : CE)
  | pass
  | raise_ (c : Nat) (f : String) (es : CEs)
  | try_ (b : CSs) (cs : List Nat) (i x : Nat)
inductive CSs where
  | nil
  | cons (s : CS) (ss : CSs)
end

def CTs.len : CTs → Nat
  | .nil => 0
  | .cons _ ts => ts.len + 1
def CEs.len : CEs → Nat
  | .nil => 0
  | .cons _ es => es.len + 1

inductive Fl where
  | nx
  | ret (s : Slot)

/-- what a def gives back: a value (or an error) and what its arguments are now -/
inductive FR where
  | ret (s : Slot) (outs : Ro)
  | ex (c : Nat) (fs : List (PyData × PyData)) (outs : Ro)
  | bad

def small (n : Nat) : Bool := decide (n ≤ 16777216)
def shp (d : PyData) : Bool := SeqAt.shaped d

/-- a dict as data: t tells whether its keys are tuples -/
def dictD (t : Bool) (kvs : List (PyData × PyData)) : PyData := .dict ((.bool t, .none) :: kvs)
/-- an error as data: its class, its fields -/
def excD (c : Nat) (fs : List (PyData × PyData)) : PyData := .dict ((.none, .int c) :: fs)
def key1 : PyData → Bool
  | .int _ => true
  | .str _ => true
  | _ => false
def isKey : Bool → PyData → Bool
  | false, d => key1 d
  | true, .tuple ds => ds.all key1
  | true, _ => false
def key1eq : PyData → PyData → Bool
  | .int i, .int j => decide (i = j)
  | .str i, .str j => decide (i = j)
  | _, _ => false
def keysEq : List PyData → List PyData → Bool
  | [], [] => true
  | a :: as, b :: bs => key1eq a b && keysEq as bs
  | _, _ => false
def keq : PyData → PyData → Bool
  | .tuple as, .tuple bs => keysEq as bs
  | a, b => key1eq a b
def lookD (k : PyData) : List (PyData × PyData) → Option PyData
  | [] => none
  | (a, b) :: l => if keq a k = true then some b else lookD k l
def putD (k v : PyData) (kvs : List (PyData × PyData)) : List (PyData × PyData) :=
  if (lookD k kvs).isSome = true then kvs.map (fun kv => if keq kv.1 k = true then (kv.1, v) else kv) else kvs ++ [(k, v)]

/-! the built-in operations, by data -/
def pAdd : List PyData → Option Slot
  | [.int i, .int j] => some (.sh (.int (i + j)))
  | [.list a, .list b] => if small (a.length + b.length) then some (.lst (a ++ b)) else none
  | [.tuple a, .tuple b] => if small (a.length + b.length) then some (.sh (.tuple (a ++ b))) else none
  | _ => none
def pSub : List PyData → Option Slot
  | [.int i, .int j] => some (.sh (.int (i - j)))
  | _ => none
def pMul : List PyData → Option Slot
  | [.list a, .int j] => if (decide (-1000000 < j) && decide (j < 1000000) && small (a.length * j.toNat)) = true then some (.lst (List.replicate j.toNat a).flatten) else none
  | [.int i, .int j] => if (decide (i.natAbs < 2 ^ 64) || decide (j.natAbs < 2 ^ 64)) = true then some (.sh (.int (i * j))) else none
  | _ => none
def pFdiv : List PyData → Option Slot
  | [.int i, .int j] => if (decide (0 < j) && decide (j < 1000000000000000000000000000000)) = true then some (.sh (.int (i / j))) else none
  | _ => none
def pMod : List PyData → Option Slot
  | [.int i, .int j] => if decide (0 < j) = true then some (.sh (.int (i % j))) else none
  | _ => none
def pPow : List PyData → Option Slot
  | [.int i, .int j] => if (decide (0 ≤ j) && decide (j ≤ 1000000) && decide (i.natAbs < 2 ^ 64)) = true then some (.sh (.int (i ^ j.toNat))) else none
  | _ => none
def pNeg : List PyData → Option Slot
  | [.int i] => some (.sh (.int (-i)))
  | _ => none
def pEq : List PyData → Option Slot
  | [.str a, .str b] => some (.sh (.bool (a == b)))
  | [a, b] => if (shp a && shp b) = true then some (.sh (.bool (PyData.eqv a b))) else none
  | _ => none
def pNe : List PyData → Option Slot
  | [.str a, .str b] => some (.sh (.bool (!(a == b))))
  | [a, b] => if (shp a && shp b) = true then some (.sh (.bool (!PyData.eqv a b))) else none
  | _ => none
/-- whether two tuples can be compared -/
def cmpOk (a b : List PyData) : Bool := shp (.tuple a) && shp (.tuple b) && PySem.W.alike (.tuple a) (.tuple b)
def pLt : List PyData → Option Slot
  | [.int i, .int j] => some (.sh (.bool (decide (i < j))))
  | [.tuple a, .tuple b] => if cmpOk a b = true then some (.sh (.bool (PySem.W.dataLt (.tuple a) (.tuple b)))) else none
  | _ => none
def pLe : List PyData → Option Slot
  | [.int i, .int j] => some (.sh (.bool (decide (i ≤ j))))
  | [.tuple a, .tuple b] => if cmpOk a b = true then some (.sh (.bool (!PySem.W.dataLt (.tuple b) (.tuple a)))) else none
  | _ => none
def pGt : List PyData → Option Slot
  | [.int i, .int j] => some (.sh (.bool (decide (j < i))))
  | [.tuple a, .tuple b] => if cmpOk a b = true then some (.sh (.bool (PySem.W.dataLt (.tuple b) (.tuple a)))) else none
  | _ => none
def pGe : List PyData → Option Slot
  | [.int i, .int j] => some (.sh (.bool (decide (j ≤ i))))
  | [.tuple a, .tuple b] => if cmpOk a b = true then some (.sh (.bool (!PySem.W.dataLt (.tuple a) (.tuple b)))) else none
  | _ => none
def pLen : List PyData → Option Slot
  | [.list a] => some (.sh (.int a.length))
  | [.tuple a] => some (.sh (.int a.length))
  | [.dict [(.none, .list a)]] => some (.sh (.int a.length))
  | [.dict ((.bool t, .none) :: kvs)] => some (.sh (.int kvs.length))
  | _ => none
def pItem : List PyData → Option Slot
  | [.list a, .int i] => (atI a i).map .sh
  | [.tuple a, .int i] => (atI a i).map .sh
  | [.dict [(.none, .list a)], .int i] => (atI a i).map .sh
  | [.dict ((.bool t, .none) :: kvs), k] => if isKey t k = true then (lookD k kvs).map .sh else none
  | _ => none
/-- ints that are held as data -/
def intsD : List PyData → Option (List Int)
  | [] => some []
  | .int i :: ds => (intsD ds).map (i :: ·)
  | _ => none
def maxI : Int → List Int → Int
  | m, [] => m
  | m, n :: ns => maxI (if n > m then n else m) ns
def minI : Int → List Int → Int
  | m, [] => m
  | m, n :: ns => minI (if n < m then n else m) ns
def pMax2 : List PyData → Option Slot
  | [.int i, .int j] => some (.sh (.int (if j > i then j else i)))
  | [.list ds] => match intsD ds with
    | some (n :: ns) => some (.sh (.int (maxI n ns)))
    | _ => none
  | _ => none
def pMin2 : List PyData → Option Slot
  | [.int i, .int j] => some (.sh (.int (if j < i then j else i)))
  | [.list ds] => match intsD ds with
    | some (n :: ns) => some (.sh (.int (minI n ns)))
    | _ => none
  | _ => none
def pMaxd : List PyData → Option Slot
  | [.list ds] => match intsD ds with
    | some (n :: ns) => some (.sh (.int (ns.foldl max n)))
    | some [] => some (.sh .none)
    | none => none
  | _ => none
def pSum : List PyData → Option Slot
  | [.list ds] => (intsD ds).map fun ns => .sh (.int ns.sum)
  | _ => none
/-- the items of ds[lo:hi] -/
def cutD (ds : List PyData) (lo hi : Option Int) : List PyData := (ds.drop (HT.sIx ds.length 0 lo)).take (HT.sIx ds.length ds.length hi - HT.sIx ds.length 0 lo)
def cutP (d : PyData) (lo hi : Option Int) : Option Slot := match d with
  | .list ds => some (.lst (cutD ds lo hi))
  | .tuple ds => some (.sh (.tuple (cutD ds lo hi)))
  | .str z => if small z.length = true then some (.sh (.str (cutS z lo hi))) else none
  | _ => none
def pSl (bl bh : Bool) : List PyData → Option Slot
  | [d, .int i] => if (bl && !bh) = true then cutP d (some i) none else if (!bl && bh) = true then cutP d none (some i) else none
  | [d, .int i, .int j] => if (bl && bh) = true then cutP d (some i) (some j) else none
  | _ => none
def pRev : List PyData → Option Slot
  | [.list ds] => some (.lst ds.reverse)
  | [.tuple ds] => some (.sh (.tuple ds.reverse))
  | _ => none
def isNon : PyData → Bool
  | .none => true
  | _ => false
def pIs : List PyData → Option Slot
  | [d, .none] => some (.sh (.bool (isNon d)))
  | [.bool a, .bool b] => some (.sh (.bool (decide (a = b))))
  | _ => none
def pIsnot : List PyData → Option Slot
  | [d, .none] => some (.sh (.bool (!isNon d)))
  | [.bool a, .bool b] => some (.sh (.bool (!decide (a = b))))
  | _ => none
def flatD : PyData → Bool
  | .none => true
  | .bool _ => true
  | .int _ => true
  | .str _ => true
  | _ => false
def inD (d : PyData) (ds : List PyData) : Bool := ds.any fun z => PyData.eqv z d
def isDctD : PyData → Bool
  | .dict ((.bool _, .none) :: _) => true
  | _ => false
def isIntD : PyData → Bool
  | .int _ => true
  | _ => false
def pIn : List PyData → Option Slot
  | [d, .dict ((.bool t, .none) :: kvs)] => if isKey t d = true then some (.sh (.bool (lookD d kvs).isSome)) else none
  | [d, .list ds] => if (shp d && shp (.list ds)) = true then some (.sh (.bool (inD d ds))) else if (flatD d && ds.all flatD) = true then some (.sh (.bool (inD d ds))) else none
  | [d, .tuple ds] => if (shp d && shp (.tuple ds)) = true then some (.sh (.bool (inD d ds))) else if (isDctD d && ds.all isIntD) = true then some (.sh (.bool false)) else none
  | _ => none
def pNotin : List PyData → Option Slot
  | [d, .dict ((.bool t, .none) :: kvs)] => if isKey t d = true then some (.sh (.bool (!(lookD d kvs).isSome))) else none
  | [d, .list ds] => if (shp d && shp (.list ds)) = true then some (.sh (.bool (!inD d ds))) else if (flatD d && ds.all flatD) = true then some (.sh (.bool (!inD d ds))) else none
  | [d, .tuple ds] => if (shp d && shp (.tuple ds)) = true then some (.sh (.bool (!inD d ds))) else none
  | _ => none
def pList : List PyData → Option Slot
  | [.list a] => some (.lst a)
  | [.tuple a] => some (.lst a)
  | _ => none
def pTuple : List PyData → Option Slot
  | [.list a] => some (.sh (.tuple a))
  | [.tuple a] => some (.sh (.tuple a))
  | _ => none
def pInt : List PyData → Option Slot
  | [.int i] => some (.sh (.int i))
  | [.bool b] => some (.sh (.int (if b then 1 else 0)))
  | _ => none
def leD (x y : PyData) : Bool := !PySem.W.dataLt y x
def alikeB (ds : List PyData) : Bool := ds.all fun a => ds.all fun b => PySem.W.alike a b
def neTup : PyData → Bool
  | .tuple (_ :: _) => true
  | _ => false
def noTup : PyData → Bool
  | .tuple _ => false
  | .none => false
  | _ => true
def sortB (ds : List PyData) : Bool := alikeB ds && (ds.all neTup || ds.all noTup) && ds.all fun d => d.canLay0 && decide (d.depth ≤ 60)
def pSorted : List PyData → Option Slot
  | [.list ds] => if sortB ds = true then some (.lst (ds.mergeSort leD)) else none
  | _ => none
/-- whether data is of a built-in class -/
def tyD : PyData → String → Option Bool
  | .none, t => if t = "int" ∨ t = "bool" ∨ t = "str" ∨ t = "list" ∨ t = "tuple" ∨ t = "dict" then some false else none
  | .bool _, t => if t = "int" ∨ t = "bool" then some true else if t = "str" ∨ t = "list" ∨ t = "tuple" ∨ t = "dict" then some false else none
  | .int _, t => if t = "int" then some true else if t = "bool" ∨ t = "str" ∨ t = "list" ∨ t = "tuple" ∨ t = "dict" then some false else none
  | .str _, t => if t = "str" then some true else if t = "bool" ∨ t = "int" ∨ t = "list" ∨ t = "tuple" ∨ t = "dict" then some false else none
  | .list _, t => if t = "list" then some true else if t = "bool" ∨ t = "str" ∨ t = "int" ∨ t = "tuple" ∨ t = "dict" then some false else none
  | .tuple _, t => if t = "tuple" then some true else if t = "bool" ∨ t = "str" ∨ t = "list" ∨ t = "int" ∨ t = "dict" then some false else none
  | .dict ((.bool _, .none) :: _), t => if t = "dict" then some true else if t = "bool" ∨ t = "str" ∨ t = "list" ∨ t = "int" ∨ t = "tuple" then some false else none
  | .dict _, _ => none
def pIsi (t : String) : List PyData → Option Slot
  | [d] => (tyD d t).map fun b => .sh (.bool b)
  | _ => none
def pLrng : List PyData → Option Slot
  | [.int n] => if (decide (-1000000000 ≤ n) && decide (n ≤ 16777216)) = true then some (.lst ((List.range n.toNat).map fun (k : Nat) => PyData.int (k : Int))) else none
  | _ => none
/-- whether data is an error of some classes -/
def pIsc (cs : List Nat) : List PyData → Option Slot
  | [.none] => some (.sh (.bool false))
  | [.bool _] => some (.sh (.bool false))
  | [.int _] => some (.sh (.bool false))
  | [.str _] => some (.sh (.bool false))
  | [.list _] => some (.sh (.bool false))
  | [.tuple _] => some (.sh (.bool false))
  | [.dict ((.none, .int c) :: _)] => some (.sh (.bool (cs.any fun k => decide ((k : Int) = c))))
  | _ => none
def fldD (f : Str) : List (PyData × PyData) → Option PyData
  | (.str g, x) :: l => if decide (g = f) = true then some x else fldD f l
  | _ => none
def pFld (f : String) : List PyData → Option Slot
  | [.dict ((.none, .int _) :: fs)] => (fldD (Str.ofString f) fs).map .sh
  | _ => none
def boolsD : List PyData → Option (List Bool)
  | [] => some []
  | .bool i :: ds => (boolsD ds).map (i :: ·)
  | _ => none
def pAll : List PyData → Option Slot
  | [.list ds] => (boolsD ds).map fun bs => .sh (.bool (bs.all id))
  | _ => none
def pAny : List PyData → Option Slot
  | [.list ds] => (boolsD ds).map fun bs => .sh (.bool (bs.any id))
  | _ => none
/-- data that nobody can change -/
def isImm : PyData → Bool
  | .list _ => false
  | .dict _ => false
  | _ => true
def pGet : List PyData → Option Slot
  | [.dict ((.bool t, .none) :: kvs), k] => if isKey t k = true then some (.sh ((lookD k kvs).getD .none)) else none
  | [.dict ((.bool t, .none) :: kvs), k, d] => if (isKey t k && isImm d) = true then some (.sh ((lookD k kvs).getD d)) else none
  | _ => none
/-- what repr tells -/
def pRepr : List PyData → Option Slot
  | [d] => if (shp d && d.showable && small d.shown.length) = true then some (.sh (.str d.shown)) else (match d with
    | .dict [(.bool _, .none)] => some (.sh (.str (Str.ofString "{}")))
    | .list [.dict [(.bool _, .none)]] => some (.sh (.str (Str.ofString "[{}]")))
    | _ => none)
  | _ => none
def pStr : List PyData → Option Slot
  | [.int i] => if decide (i.natAbs.log2 < 1920) = true then some (.sh (.str (toString i))) else none
  | [.str z] => some (.sh (.str z))
  | _ => none
def prim : Op → List PyData → Option Slot
  | .repr, ds => pRepr ds
  | .str_, ds => pStr ds
  | .add, ds => pAdd ds
  | .sub, ds => pSub ds
  | .mul, ds => pMul ds
  | .fdiv, ds => pFdiv ds
  | .mod, ds => pMod ds
  | .pow, ds => pPow ds
  | .neg, ds => pNeg ds
  | .eq, ds => pEq ds
  | .ne, ds => pNe ds
  | .lt, ds => pLt ds
  | .le, ds => pLe ds
  | .gt, ds => pGt ds
  | .ge, ds => pGe ds
  | .len, ds => pLen ds
  | .item, ds => pItem ds
  | .max2, ds => pMax2 ds
  | .min2, ds => pMin2 ds
  | .list_, ds => pList ds
  | .tuple_, ds => pTuple ds
  | .int_, ds => pInt ds
  | .sorted, ds => pSorted ds
  | .isi t, ds => pIsi t ds
  | .is_, ds => pIs ds
  | .isnot, ds => pIsnot ds
  | .in_, ds => pIn ds
  | .notin, ds => pNotin ds
  | .sum, ds => pSum ds
  | .sl a b, ds => pSl a b ds
  | .rev, ds => pRev ds
  | .isc cs, ds => pIsc cs ds
  | .fld f, ds => pFld f ds
  | .all_, ds => pAll ds
  | .any_, ds => pAny ds
  | .get, ds => pGet ds
  | .maxd, ds => pMaxd ds
  | .lrng, ds => pLrng ds

/-- a temporary goes into the shared data -/
def toSh : Slot → Option PyData
  | .sh d => some d
  | .lst ds => some (.list ds)
  | .dct t kvs => some (dictD t kvs)
  | .non => none

def R.sh (x : R Slot) : R PyData := x.bind fun s r => match toSh s with
  | some d => .ok d r
  | none => .bad

/-- the stores to a target -/
def asgN (i : Nat) (s : Slot) (r : Ro) : Option Ro := if decide (i < r.length) = true then some (r.set i s) else none
mutual
def asg : CT → PyData → Ro → Option Ro
  | .name i, d, r => asgN i (.sh d) r
  | .tup ts, .tuple ds, r => asgs ts ds r
  | .tup _, _, _ => none
def asgs : CTs → List PyData → Ro → Option Ro
  | .nil, [], r => some r
  | .cons t ts, d :: ds, r => match asg t d r with
    | some r' => asgs ts ds r'
    | none => none
  | _, _, _ => none
end

/-- an operand: a place, data, a thing of one's own that has no place -/
inductive Od where
  | pl (i : Nat)
  | da (d : PyData)
  | tm (s : Slot)
/-- whether a place holds something -/
def has (r : Ro) (i : Nat) : Bool := match r[i]? with
  | some (.sh _) => true
  | some (.lst _) => true
  | some (.dct _ _) => true
  | _ => false
/-- an operand's data -/
def rdO (r : Ro) : Od → Option PyData
  | .pl i => (match r[i]? with
    | some s => toSh s
    | none => none)
  | .da d => some d
  | .tm _ => none
def rdOs (r : Ro) : List Od → Option (List PyData)
  | [] => some []
  | o :: os => (match rdO r o with
    | some d => (match rdOs r os with
      | some ds => some (d :: ds)
      | none => none)
    | none => none)
/-- whether a place holds what a method wants -/
def mTy (o : Op) (r : Ro) (i : Nat) : Bool := match o, rdO r (.pl i) with
  | .get, some (.dict ((.bool _, .none) :: _)) => true
  | _, _ => false
/-- a lock: the place and what stood there -/
abbrev Lk := Nat × Slot
def unlks : List Lk → Ro → Ro
  | [], r => r
  | (i, s) :: ls, r => (unlks ls r).set i s
/-- an operand's data, its place locked if it is a list or a dict of one's own -/
def lk1 (r : Ro) : Od → Option (PyData × List Lk × Ro)
  | .da d => some (d, [], r)
  | .pl i => (match r[i]? with
    | some (.sh d) => some (d, [], r)
    | some (.lst ds) => some (.list ds, [(i, .lst ds)], r.set i .non)
    | _ => none)
  | .tm _ => none
def lks : List Od → Ro → Option (List PyData × List Lk × Ro)
  | [], r => some ([], [], r)
  | o :: os, r => (match lk1 r o with
    | some (d, l, r1) => (match lks os r1 with
      | some (ds, ls, r2) => some (d :: ds, l ++ ls, r2)
      | none => none)
    | none => none)
/-- an argument: what is handed in, and the place that it comes back to -/
def mv1 (r : Ro) : Od → Option (Slot × Option Nat × Ro)
  | .da d => some (.sh d, none, r)
  | .tm s => some (s, none, r)
  | .pl i => (match r[i]? with
    | some (.sh d) => some (.sh d, none, r)
    | some (.lst ds) => some (.lst ds, some i, r.set i .non)
    | some (.dct t kvs) => some (.dct t kvs, some i, r.set i .non)
    | _ => none)
def mvs : List Od → Ro → Option (Ro × List (Option Nat) × Ro)
  | [], r => some ([], [], r)
  | o :: os, r => (match mv1 r o with
    | some (s, l, r1) => (match mvs os r1 with
      | some (ss, ls, r2) => some (s :: ss, l :: ls, r2)
      | none => none)
    | none => none)

/-- the turns of a loop -/
def turns (step : PyData → Ro → R Fl) : List PyData → Ro → R Fl
  | [], r => .ok .nx r
  | d :: ds, r => match step d r with
    | .ok .nx r' => turns step ds r'
    | o => o
/-- the turns of a comprehension -/
def comp (step : PyData → Ro → R (Option PyData)) : List PyData → List PyData → Ro → R (List PyData)
  | [], acc, r => .ok acc r
  | d :: ds, acc, r => match step d r with
    | .ok (some y) r' => comp step ds (acc ++ [y]) r'
    | .ok none r' => comp step ds acc r'
    | .ex c fs r' => .bad
    | .bad => .bad
def loop (c : Ro → R Bool) (b : Ro → R Fl) : Nat → Ro → R Fl
  | 0, _ => .bad
  | n + 1, r => match c r with
    | .ok true r1 => (match b r1 with
      | .ok .nx r2 => loop c b n r2
      | o => o)
    | .ok false r1 => .ok .nx r1
    | .ex c fs r1 => .ex c fs r1
    | .bad => .bad

def R.truth (x : R Slot) : R Bool := x.bind fun s r => match s with
  | .sh (.bool b) => .ok b r
  | _ => .bad

def rngL (lo : Int) (n : Nat) : List PyData := (List.range n).map fun (k : Nat) => PyData.int (lo + (k : Int))
def in62 (i : Int) : Bool := decide (-(2 ^ 62) ≤ i) && decide (i < 2 ^ 62)

/-- the items of a list or a tuple -/
def seqI (d : PyData) (l : List Lk) (r : Ro) : R (List PyData × List Lk) := match d with
  | .list ds => .ok (ds, l) r
  | .tuple ds => .ok (ds, l) r
  | _ => .bad
def enumL : Nat → List PyData → List PyData
  | _, [] => []
  | i, d :: ds => .tuple [.int (i : Int), d] :: enumL (i + 1) ds
/-- the pairs of a zip or an enumerate -/
def prsI (z : Bool) (xs : List PyData) : Option (List PyData) := match z, xs with
  | true, [.list a, .list b] => if small a.length = true then some (List.zipWith (fun x y => .tuple [x, y]) a b) else none
  | true, [.tuple a, .tuple b] => if small a.length = true then some (List.zipWith (fun x y => .tuple [x, y]) a b) else none
  | false, [.list a] => if small a.length = true then some (enumL 0 a) else none
  | _, _ => none
/-- slots forgotten, and brought back -/
def wipeR (r : Ro) : List Nat → Ro
  | [] => r
  | v :: vs => (wipeR r vs).set v .non
def backR (r0 r : Ro) : List Nat → Ro
  | [] => r
  | v :: vs => match r0[v]? with
    | some s => (backR r0 r vs).set v s
    | none => backR r0 r vs

section
variable (fu : Nat) (Phi : Nat → Ro → FR)

/-- a name's slot, its list shared from now on -/
def getV (i : Nat) (r : Ro) : R Slot := match r[i]? with
  | some (.sh d) => .ok (.sh d) r
  | some (.lst ds) => .ok (.sh (.list ds)) (r.set i (.sh (.list ds)))
  | some (.dct t kvs) => .ok (.sh (dictD t kvs)) (r.set i (.sh (dictD t kvs)))
  | _ => .bad
/-- the slots of a call's places behind it -/
def putBack : List (Option Nat) → Ro → Ro → Ro
  | none :: ls, _ :: os, r => putBack ls os r
  | some i :: ls, o :: os, r => putBack ls os (r.set i o)
  | _, _, r => r

mutual
def ev : CE → Ro → R Slot
  | .var i, r => getV i r
  | .cst d, r => .ok (.sh d) r
  | .glob _ d, r => .ok (.sh d) r
  | .op o es, r => (rds es r).bind fun x r1 => match rdOs r1 x with
    | some ds => (match prim o ds with
      | some s => .ok s r1
      | none => .bad)
    | none => .bad
  | .tup es, r => (evs es r).bind fun ds r1 => .ok (.sh (.tuple ds)) r1
  | .lst es, r => (evs es r).bind fun ds r1 => .ok (.lst ds) r1
  | .not a, r => ((ev a r).truth).bind fun b r1 => .ok (.sh (.bool (!b))) r1
  | .and a b, r => ((ev a r).truth).bind fun x r1 => if x = true then ev b r1 else .ok (.sh (.bool false)) r1
  | .or a b, r => ((ev a r).truth).bind fun x r1 => if x = true then .ok (.sh (.bool true)) r1 else ev b r1
  | .chain o p a b c, r => (ev a r).sh.bind fun x r1 => (ev b r1).sh.bind fun y r2 => match prim o [x, y] with
    | some (.sh (.bool true)) => (ev c r2).sh.bind fun z r3 => (match prim p [y, z] with
      | some s => .ok s r3
      | none => .bad)
    | some (.sh (.bool false)) => .ok (.sh (.bool false)) r2
    | _ => .bad
  | .lc elt tg it cond own, r => (evI it r).bind fun x r1 =>
      (comp (fun d q => match asg tg d (wipeR q (own.map (·.2))) with
        | some q1 => (evC cond q1).bind fun b q2 => if b = true then (ev elt q2).sh.bind fun y q3 => .ok (some y) (backR q q3 (own.map (·.2))) else .ok none (backR q q2 (own.map (·.2)))
        | none => .bad) x.1 [] r1).bind fun ys r2 => .ok (.lst ys) (unlks x.2 r2)
  | .call f es, r => (evA es r).bind fun x r1 => match mvs x r1 with
    | some (args, ls, r2) => (match Phi f args with
      | .ret s outs => .ok s (putBack ls outs r2)
      | .ex c fs outs => .ex c fs (putBack ls outs r2)
      | .bad => .bad)
    | none => .bad
  | .ref _, _ => .bad
  | .own _, _ => .bad
  | .pop i a, r => match r[i]? with
    | some (.lst _) => (ev a r).sh.bind fun d r1 => (match d, r1[i]? with
      | .int n, some (.lst ds) => (match ixN ds.length n with
        | some j => (match ds[j]? with
          | some y => .ok (.sh y) (r1.set i (.lst (ds.eraseIdx j)))
          | none => .bad)
        | none => .bad)
      | _, _ => .bad)
    | _ => .bad
  | .shr i, r => getV i r
  | .xop o es, r => (rds es r).bind fun x r1 => match rdOs r1 x with
    | some ds => (match prim o ds with
      | some s => .ok s r1
      | none => .bad)
    | none => .bad
  | .meth o i es, r => if mTy o r i = true then (rds es r).bind fun x r1 => match rdOs r1 (.pl i :: x) with
    | some ds => (match prim o ds with
      | some s => .ok s r1
      | none => .bad)
    | none => .bad else .bad
  | .dnew t, r => .ok (.dct t []) r
  | .xnew c f a, r => (ev a r).sh.bind fun d r1 => .ok (.sh (excD c (if f = "" then [] else [(.str (Str.ofString f), d)]))) r1
  | .sl2 a lo hi, r => (ev a r).sh.bind fun d r1 => (ev lo r1).sh.bind fun x r2 => match x with
    | .int i => (ev hi r2).sh.bind fun y r3 => (match y with
      | .int j => (match cutP d (some i) (some j) with
        | some s => .ok s r3
        | none => .bad)
      | _ => .bad)
    | _ => .bad
/-- shared data, from the left -/
def evs : CEs → Ro → R (List PyData)
  | .nil, r => .ok [] r
  | .cons e es, r => (ev e r).sh.bind fun d r1 => (evs es r1).bind fun ds r2 => .ok (d :: ds) r2
/-- operands, from the left; names are read at last -/
def rds : CEs → Ro → R (List Od)
  | .nil, r => .ok [] r
  | .cons (.var i) es, r => if has r i = true then (rds es r).bind fun ds r2 => .ok (.pl i :: ds) r2 else .bad
  | .cons e es, r => (ev e r).sh.bind fun d r1 => (rds es r1).bind fun ds r2 => .ok (.da d :: ds) r2
/-- a call's arguments -/
def evA : CEs → Ro → R (List Od)
  | .nil, r => .ok [] r
  | .cons (.ref i) es, r => if has r i = true then (evA es r).bind fun ds r2 => .ok (.pl i :: ds) r2 else .bad
  | .cons (.own e) es, r => (ev e r).bind fun s r1 => (evA es r1).bind fun ds r2 => .ok (.tm s :: ds) r2
  | .cons e es, r => (ev e r).sh.bind fun d r1 => (evA es r1).bind fun ds r2 => .ok (.da d :: ds) r2
/-- a clause's tests -/
def evC : CEs → Ro → R Bool
  | .nil, r => .ok true r
  | .cons e .nil, r => (ev e r).truth
  | .cons _ (.cons _ _), _ => .bad
/-- what a loop walks -/
def evI : CI → Ro → R (List PyData × List Lk)
  | .seq (.var i), r => (match lk1 r (.pl i) with
    | some (d, ls, r1) => seqI d ls r1
    | none => .bad)
  | .seq e, r => (ev e r).sh.bind fun d r1 => seqI d [] r1
  | .rng1 a, r => (ev a r).sh.bind fun d r1 => match d with
    | .int n => if (in62 n && small n.toNat) = true then .ok (rngL 0 n.toNat, []) r1 else .bad
    | _ => .bad
  | .rng2 a b, r => (ev a r).sh.bind fun d r1 => (ev b r1).sh.bind fun e r2 => match d, e with
    | .int m, .int n => if (in62 m && in62 n && small (n - m).toNat) = true then .ok (rngL m (n - m).toNat, []) r2 else .bad
    | _, _ => .bad
  | .prs z es, r => (rds es r).bind fun x r1 => match lks x r1 with
    | some (ds, ls, r2) => (match prsI z ds with
      | some l => .ok (l, ls) r2
      | none => .bad)
    | none => .bad
end

mutual
def ex : CS → Ro → R Fl
  | .set (.name i) e, r => (ev Phi e r).bind fun s r1 => match asgN i s r1 with
    | some r2 => .ok .nx r2
    | none => .bad
  | .set (.tup ts) e, r => (ev Phi e r).sh.bind fun d r1 => match asg (.tup ts) d r1 with
    | some r2 => .ok .nx r2
    | none => .bad
  | .setLc i e, r => (ev Phi e r).bind fun s r1 => match asgN i s r1 with
    | some r2 => .ok .nx r2
    | none => .bad
  | .move i j, r => match r[j]? with
    | some (.lst ds) => (match asgN i (.lst ds) (r.set j .non) with
      | some r2 => .ok .nx r2
      | none => .bad)
    | some (.dct t kvs) => (match asgN i (.dct t kvs) (r.set j .non) with
      | some r2 => .ok .nx r2
      | none => .bad)
    | some (.sh d) => (match asgN i (.sh d) r with
      | some r2 => .ok .nx r2
      | none => .bad)
    | _ => .bad
  | .aug i o e, r => match r[i]? with
    | some (.sh (.int x)) => (ev Phi e r).sh.bind fun y r1 => (match prim o [.int x, y] with
      | some s => (match asgN i s r1 with
        | some r2 => .ok .nx r2
        | none => .bad)
      | none => .bad)
    | _ => .bad
  | .ite c a b, r => (ev Phi c r).truth.bind fun x r1 => if x = true then exs a r1 else exs b r1
  | .for_ t it b, r => (evI Phi it r).bind fun x r1 =>
      (turns (fun d q => match asg t d q with
        | some q1 => exs b q1
        | none => .bad) x.1 r1).bind fun f r2 => .ok f (unlks x.2 r2)
  | .while_ c b, r => loop (fun q => (ev Phi c q).truth) (fun q => exs b q) fu r
  | .ret (.var i), r => match r[i]? with
    | some (.sh d) => .ok (.ret (.sh d)) r
    | some (.lst ds) => .ok (.ret (.lst ds)) (r.set i .non)
    | some (.dct t kvs) => .ok (.ret (.dct t kvs)) (r.set i .non)
    | _ => .bad
  | .ret e, r => (ev Phi e r).bind fun s r1 => .ok (.ret s) r1
  | .expr e, r => (ev Phi e r).bind fun _ r1 => .ok .nx r1
  | .append i e, r => match r[i]? with
    | some (.lst _) => (ev Phi e r).sh.bind fun y r1 => (match r1[i]? with
      | some (.lst ds) => if decide (ds.length < 16777216) = true then .ok .nx (r1.set i (.lst (ds ++ [y]))) else .bad
      | _ => .bad)
    | _ => .bad
  | .extend i e, r => match r[i]? with
    | some (.lst _) => (ev Phi e r).sh.bind fun y r1 => (match r1[i]?, y with
      | some (.lst ds), .list ys => if small (ds.length + ys.length) = true then .ok .nx (r1.set i (.lst (ds ++ ys))) else .bad
      | _, _ => .bad)
    | _ => .bad
  | .setItem i k e, r => (ev Phi e r).sh.bind fun y r1 => (match r1[i]? with
    | some (.lst _) => (ev Phi k r1).sh.bind fun z r2 => (match z, r2[i]? with
      | .int n, some (.lst ds) => (match ixN ds.length n with
        | some j => .ok .nx (r2.set i (.lst (ds.set j y)))
        | none => .bad)
      | _, _ => .bad)
    | some (.dct _ _) => (ev Phi k r1).sh.bind fun z r2 => (match r2[i]? with
      | some (.dct t kvs) => if (isKey t z && decide (kvs.length < 16777216)) = true then .ok .nx (r2.set i (.dct t (putD z y kvs))) else .bad
      | _ => .bad)
    | _ => .bad)
  | .pass, r => .ok .nx r
  | .raise_ c f .nil, r => .ex c [] r
  | .raise_ c f (.cons e .nil), r => (ev Phi e r).sh.bind fun d r1 => .ex c [(.str (Str.ofString f), d)] r1
  | .raise_ _ _ (.cons _ (.cons _ _)), _ => .bad
  | .try_ b cs i x, r => (match exs b r with
    | .ex c fs r1 => if decide (c ∈ cs) = true then (if decide (i < r1.length) = true then (match asgN x (.sh (excD c fs)) (r1.set i .non) with
      | some r2 => .ok .nx r2
      | none => .bad) else .bad) else .ex c fs r1
    | o => o)
def exs : CSs → Ro → R Fl
  | .nil, r => .ok .nx r
  | .cons s ss, r => match ex s r with
    | .ok .nx r1 => exs ss r1
    | o => o
end
end

/-- a def: its parameters' number, its slots' number, the parameters that it may change, its body -/
structure Fn where
  np : Nat
  nn : Nat
  muts : List Nat
  body : CSs

def outsOf (muts : List Nat) (args r : Ro) : Ro := (List.range args.length).map fun i => if decide (i ∈ muts) = true then r.getD i .non else args.getD i .non
def okArgs (muts : List Nat) : Nat → Ro → Bool
  | _, [] => true
  | i, .sh _ :: r => okArgs muts (i + 1) r
  | i, .lst _ :: r => decide (i ∈ muts) && okArgs muts (i + 1) r
  | i, .dct _ _ :: r => decide (i ∈ muts) && okArgs muts (i + 1) r
  | _, .non :: _ => false

def runF (fu : Nat) (Phi : Nat → Ro → FR) (f : Fn) (args : Ro) : FR :=
  if (decide (args.length = f.np) && okArgs f.muts 0 args) = true then
    match exs fu Phi f.body (args ++ List.replicate (f.nn - f.np) .non) with
    | .ok (.ret s) r => .ret s (outsOf f.muts args r)
    | .ok .nx r => .ret (.sh .none) (outsOf f.muts args r)
    | .ex c fs r => .ex c fs (outsOf f.muts args r)
    | .bad => .bad
  else .bad

/-- the script, as data -/
def scrD (ns : List Int) : PyData := .dict [(.none, .list (ns.map PyData.int))]
/-- the whole program, by levels -/
def run (fu : Nat) (T : List Fn) : Nat → Nat → Ro → FR
  | 0, _, _ => .bad
  | k + 1, f, args => match T[f]? with
    | some g => runF fu (run fu T k) g args
    | none => .bad
end Ev
end

section
set_option maxHeartbeats 8000000
set_option Elab.async false
set_option linter.all false
set_option maxRecDepth 100000
namespace Ev
open PySem L2

/-- the classes of errors, by their addresses -/
class Errs where
  ca : Nat → Addr
  has : List Nat
variable [Errs]
/-- an error that is held -/
def XO (cls : Value) (d : Option Addr) (a : Addr) : HO := .ext fun h => ∃ (oe : Obj) (vs : Array Value), h.get? a = some oe ∧ Zc cls d oe ∧ oe.data = .fields vs
def keyDK : Key → PyData
  | .inl i => .int i
  | .inr s => .str s

/-! ### data in a growing heap -/
mutual
/-- a value that reads as data, by the objects of J alone -/
inductive Sh (K : PySem.W.Frag) (J : Hp) : V → PyData → Prop
  | non : Sh K J .non .none
  | bl (b : Bool) : Sh K J (.bl b) (.bool b)
  | int (i : Int) : Sh K J (.int i) (.int i)
  | str (x : Str) : Sh K J (.str x) (.str x)
  | lst {a : Addr} {xs : List V} {ds : List PyData} : J a = some (.lst xs) → ShAll K J xs ds → Sh K J (.ref a) (.list ds)
  | tup {a : Addr} {xs : List V} {ds : List PyData} : J a = some (.tup xs) → ShAll K J xs ds → Sh K J (.ref a) (.tuple ds)
  | scr {a : Addr} {ns : List Int} : SqL K J a (ns.map V.int) → Sh K J (.ref a) (.dict [(.none, .list (ns.map PyData.int))])
  | dK {a : Addr} {ks : List (Key × V)} {kvs : List (PyData × PyData)} : J a = some (.dK ks) → kvs.map (·.1) = ks.map (fun k => keyDK k.1) → ShAll K J (ks.map (·.2)) (kvs.map (·.2)) → Sh K J (.ref a) (.dict ((.bool false, .none) :: kvs))
  | dT {a : Addr} {ks : List (List Key × V)} {kvs : List (PyData × PyData)} : J a = some (.dT ks) → kvs.map (·.1) = ks.map (fun k => .tuple (k.1.map keyDK)) → ShAll K J (ks.map (·.2)) (kvs.map (·.2)) → Sh K J (.ref a) (.dict ((.bool true, .none) :: kvs))
  | exc0 {a : Addr} {c : Nat} : c ∈ Errs.has → J a = some (XO (.ref (Errs.ca c)) none a) → Sh K J (.ref a) (.dict [(.none, .int c)])
  | exc1 {a dd : Addr} {c : Nat} {f : Str} {v : V} {x : PyData} : c ∈ Errs.has → J a = some (XO (.ref (Errs.ca c)) (some dd) a) → J dd = some (.xd [(f, v)]) → Sh K J v x → Sh K J (.ref a) (.dict [(.none, .int c), (.str f, x)])
inductive ShAll (K : PySem.W.Frag) (J : Hp) : List V → List PyData → Prop
  | nil : ShAll K J [] []
  | cons {v : V} {vs : List V} {d : PyData} {ds : List PyData} : Sh K J v d → ShAll K J vs ds → ShAll K J (v :: vs) (d :: ds)
end
mutual
theorem shMono {K : PySem.W.Frag} {H H' : Hp} (e : Same H H') : ∀ {d : PyData} {v : V}, Sh K H v d → Sh K H' v d
  | _, _, .non => .non
  | _, _, .bl b => .bl b
  | _, _, .int i => .int i
  | _, _, .str x => .str x
  | _, _, .lst h g => .lst (e _ _ h) (shsMono e g)
  | _, _, .tup h g => .tup (e _ _ h) (shsMono e g)
  | _, _, .scr h => .scr (e.seq h)
  | _, _, .dK h k g => .dK (e _ _ h) k (shsMono e g)
  | _, _, .dT h k g => .dT (e _ _ h) k (shsMono e g)
  | _, _, .exc0 n h => .exc0 n (e _ _ h)
  | _, _, .exc1 n h k g => .exc1 n (e _ _ h) (e _ _ k) (shMono e g)
theorem shsMono {K : PySem.W.Frag} {H H' : Hp} (e : Same H H') : ∀ {ds : List PyData} {vs : List V}, ShAll K H vs ds → ShAll K H' vs ds
  | _, _, .nil => .nil
  | _, _, .cons h g => .cons (shMono e h) (shsMono e g)
end
mutual
theorem shDp {K : PySem.W.Frag} {H : Hp} : ∀ {d : PyData} {v : V}, d.canLay0 = true → Sh K H v d → Dp K H v d
  | _, _, _, .non => .non
  | _, _, _, .bl b => .bl b
  | _, _, _, .int i => .int i
  | _, _, _, .str x => .str x
  | _, _, c, .lst h g => .lst (.of h) (shsDp (by simpa [PyData.canLay0] using c) g)
  | _, _, c, .tup h g => .tup (.of h) (shsDp (by simpa [PyData.canLay0] using c) g)
  | _, _, c, .scr h => by simp [PyData.canLay0] at c
  | _, _, c, .dK _ _ _ => by simp [PyData.canLay0] at c
  | _, _, c, .dT _ _ _ => by simp [PyData.canLay0] at c
  | _, _, c, .exc0 _ _ => by simp [PyData.canLay0] at c
  | _, _, c, .exc1 _ _ _ _ => by simp [PyData.canLay0] at c
theorem shsDp {K : PySem.W.Frag} {H : Hp} : ∀ {ds : List PyData} {vs : List V}, PyData.canLayAll0 ds = true → ShAll K H vs ds → DpAll K H vs ds
  | _, _, _, .nil => .nil
  | _, _, c, .cons h g => by
    simp only [PyData.canLayAll0, Bool.and_eq_true] at c
    exact .cons (shDp c.1 h) (shsDp c.2 g)
end
theorem shsLen {K : PySem.W.Frag} {H : Hp} : ∀ {ds : List PyData} {vs : List V}, ShAll K H vs ds → vs.length = ds.length
  | _, _, .nil => rfl
  | _, _, .cons _ g => by rw [List.length_cons, List.length_cons, shsLen g]
theorem shsGet {K : PySem.W.Frag} {H : Hp} : ∀ {ds : List PyData} {vs : List V} {i : Nat} {d : PyData}, ShAll K H vs ds → ds[i]? = some d → ∃ v, vs[i]? = some v ∧ Sh K H v d
  | _, _, i, _, .nil, e => by simp at e
  | _, _, 0, _, .cons h _, e => by simp at e; subst e; exact ⟨_, rfl, h⟩
  | _, _, i + 1, d, .cons _ g, e => by
    obtain ⟨v, h1, h2⟩ := shsGet (i := i) (d := d) g (by simpa using e)
    exact ⟨v, by simpa using h1, h2⟩
theorem shsGetV {K : PySem.W.Frag} {H : Hp} : ∀ {ds : List PyData} {vs : List V} {i : Nat} {v : V}, ShAll K H vs ds → vs[i]? = some v → ∃ d, ds[i]? = some d ∧ Sh K H v d
  | _, _, i, _, .nil, e => by simp at e
  | _, _, 0, _, .cons h _, e => by simp at e; subst e; exact ⟨_, rfl, h⟩
  | _, _, i + 1, v, .cons _ g, e => by
    obtain ⟨d, h1, h2⟩ := shsGetV (i := i) (v := v) g (by simpa using e)
    exact ⟨d, by simpa using h1, h2⟩
theorem shsApp {K : PySem.W.Frag} {H : Hp} : ∀ {ds : List PyData} {vs : List V} {es : List PyData} {us : List V}, ShAll K H vs ds → ShAll K H us es → ShAll K H (vs ++ us) (ds ++ es)
  | _, _, _, _, .nil, g => g
  | _, _, _, _, .cons h k, g => .cons h (shsApp k g)
theorem shsSet {K : PySem.W.Frag} {H : Hp} {d : PyData} {v : V} (h : Sh K H v d) : ∀ {ds : List PyData} {vs : List V} {j : Nat}, ShAll K H vs ds → ShAll K H (vs.set j v) (ds.set j d)
  | _, _, _, .nil => .nil
  | _, _, 0, .cons _ g => .cons h g
  | _, _, j + 1, .cons k g => .cons k (shsSet h g)
theorem shsAt {K : PySem.W.Frag} {H : Hp} {ds : List PyData} {vs : List V} {i : Int} {d : PyData} (h : ShAll K H vs ds) (e : atI ds i = some d) : ∃ v, atI vs i = some v ∧ Sh K H v d := by
  unfold atI at e ⊢
  rw [shsLen h]
  cases q : ixN ds.length i with
  | none => rw [q] at e; cases e
  | some j =>
    rw [q] at e
    exact shsGet h e
theorem shsInts {K : PySem.W.Frag} {H : Hp} : ∀ (ns : List Int), ShAll K H (ns.map V.int) (ns.map PyData.int)
  | [] => .nil
  | n :: ns => .cons (.int n) (shsInts ns)

/-- what a dict holds -/
def DRep (K : PySem.W.Frag) (J : Hp) (ho : HO) : Bool → List (PyData × PyData) → Prop
  | false, kvs => ∃ ks : List (Key × V), ho = .dK ks ∧ kvs.map (·.1) = ks.map (fun k => keyDK k.1) ∧ ShAll K J (ks.map (·.2)) (kvs.map (·.2))
  | true, kvs => ∃ ks : List (List Key × V), ho = .dT ks ∧ kvs.map (·.1) = ks.map (fun k => .tuple (k.1.map keyDK)) ∧ ShAll K J (ks.map (·.2)) (kvs.map (·.2))
theorem DRep.mono {K : PySem.W.Frag} {J J' : Hp} (e : Same J J') {ho : HO} : ∀ {t : Bool} {kvs : List (PyData × PyData)}, DRep K J ho t kvs → DRep K J' ho t kvs
  | false, _, ⟨ks, h1, h2, h3⟩ => ⟨ks, h1, h2, shsMono e h3⟩
  | true, _, ⟨ks, h1, h2, h3⟩ => ⟨ks, h1, h2, shsMono e h3⟩
theorem DRep.sh {K : PySem.W.Frag} {J : Hp} {a : Addr} {ho : HO} (h : J a = some ho) : ∀ {t : Bool} {kvs : List (PyData × PyData)}, DRep K J ho t kvs → Sh K J (.ref a) (dictD t kvs)
  | false, _, ⟨ks, h1, h2, h3⟩ => .dK (by rw [h, h1]) h2 h3
  | true, _, ⟨ks, h1, h2, h3⟩ => .dT (by rw [h, h1]) h2 h3

/-! ### slots -/
def isOwn : Slot → Bool
  | .lst _ => true
  | .dct _ _ => true
  | _ => false
/-- what a slot says of a value; g: the addresses that are its own -/
def RepS (K : PySem.W.Frag) (H J : Hp) : Slot → V → List Addr → Prop
  | .non, _, _ => False
  | .sh d, v, g => g = [] ∧ Sh K J v d
  | .lst ds, v, g => ∃ a xs, v = .ref a ∧ g = [a] ∧ H a = some (.lst xs) ∧ ShAll K J xs ds
  | .dct t kvs, v, g => ∃ a ho, v = .ref a ∧ g = [a] ∧ H a = some ho ∧ DRep K J ho t kvs
theorem RepS.own {K : PySem.W.Frag} {H J : Hp} : ∀ {s : Slot} {v : V} {g : List Addr} {d : PyData}, RepS K H J s v g → isOwn s = true → toSh s = some d → ∃ a ho, v = .ref a ∧ g = [a] ∧ H a = some ho ∧ ∀ J', Same J J' → J' a = some ho → Sh K J' v d
  | .lst ds, _, _, _, ⟨a, xs, h1, h2, h3, h4⟩, _, e => by cases e; exact ⟨a, _, h1, h2, h3, fun J' js h => by rw [h1]; exact .lst h (shsMono js h4)⟩
  | .dct t kvs, _, _, _, ⟨a, ho, h1, h2, h3, h4⟩, _, e => by cases e; exact ⟨a, _, h1, h2, h3, fun J' js h => by rw [h1]; exact (h4.mono js).sh h⟩

/-- the slots are as they are said to be; J: the part of the heap that nobody changes -/
structure Wf (K : PySem.W.Frag) (H J : Hp) (sg : St) (r : Ro) (fp : Nat → List Addr) : Prop where
  same : Same J H
  len : sg.length = r.length
  rep : ∀ i s, r[i]? = some s → s ≠ .non → ∃ v, sg[i]? = some (some v) ∧ RepS K H J s v (fp i)
  emp : ∀ i, (r[i]? = none ∨ r[i]? = some .non) → fp i = []
  dis : ∀ i j a, a ∈ fp i → a ∈ fp j → i = j
  jn : ∀ i a, a ∈ fp i → J a = none ∧ ∃ o, H a = some o

abbrev Own (fp : Nat → List Addr) (a : Addr) : Prop := ∃ i, a ∈ fp i
/-- from one state to a later one -/
structure Step (F : Addr → Prop) (H J : Hp) (F' : Addr → Prop) (H' J' : Hp) : Prop where
  js : Same J J'
  fr : ∀ b o, H b = some o → ¬ F b → H' b = some o
  fn : ∀ a, F' a → F a ∨ H a = none
  jg : ∀ a, J' a ≠ none → J a ≠ none ∨ F a ∨ H a = none

theorem Step.refl {F : Addr → Prop} {H J : Hp} : Step F H J F H J := ⟨Same.refl _, fun _ _ h _ => h, fun _ h => .inl h, fun _ h => .inl h⟩
theorem Step.gone {F F' : Addr → Prop} {H J H' J' : Hp} (s : Step F H J F' H' J') {a : Addr} (h : H' a = none) : F a ∨ H a = none := by
  cases e : H a with
  | none => exact .inr rfl
  | some o =>
    refine .inl ?_
    apply Classical.byContradiction
    intro n
    rw [s.fr a o e n] at h
    cases h
theorem Step.trans {F F1 F2 : Addr → Prop} {H J H1 J1 H2 J2 : Hp} (s : Step F H J F1 H1 J1) (t : Step F1 H1 J1 F2 H2 J2) : Step F H J F2 H2 J2 where
  js := s.js.trans t.js
  fr := fun b o h n => t.fr b o (s.fr b o h n) fun q => (s.fn b q).elim n fun z => by rw [z] at h; cases h
  fn := fun a q => (t.fn a q).elim (fun q => s.fn a q) fun z => s.gone z
  jg := fun a q => by
    rcases t.jg a q with z | z | z
    · exact s.jg a z
    · exact .inr (s.fn a z)
    · exact .inr (s.gone z)
theorem Step.weak {F F1 F2 : Addr → Prop} {H J H1 J1 : Hp} (s : Step F H J F1 H1 J1) (h : ∀ a, F2 a → F1 a) : Step F H J F2 H1 J1 := ⟨s.js, s.fr, fun a q => s.fn a (h a q), s.jg⟩
theorem Step.widen {F F0 F1 : Addr → Prop} {H J H1 J1 : Hp} (s : Step F H J F1 H1 J1) (h : ∀ a, F a → F0 a) : Step F0 H J F1 H1 J1 :=
  ⟨s.js, fun b o e n => s.fr b o e fun q => n (h b q), fun a q => (s.fn a q).imp (h a) id, fun a q => (s.jg a q).imp id (fun z => z.imp (h a) id)⟩
/-- what is apart stays as it was -/
theorem RepS.step {K : PySem.W.Frag} {F F' : Addr → Prop} {H J H' J' : Hp} (t : Step F H J F' H' J') : ∀ {s : Slot} {v : V} {g : List Addr}, RepS K H J s v g → (∀ a ∈ g, ¬ F a) → RepS K H' J' s v g
  | .non, _, _, h, _ => h
  | .sh d, v, g, ⟨h1, h2⟩, _ => ⟨h1, shMono t.js h2⟩
  | .lst ds, v, g, ⟨a, xs, e1, e2, h, k⟩, n => ⟨a, xs, e1, e2, t.fr a _ h (n a (by rw [e2]; exact List.mem_singleton.mpr rfl)), shsMono t.js k⟩
  | .dct _ _, v, g, ⟨a, ho, e1, e2, h, k⟩, n => ⟨a, ho, e1, e2, t.fr a _ h (n a (by rw [e2]; exact List.mem_singleton.mpr rfl)), k.mono t.js⟩
theorem RepS.there {K : PySem.W.Frag} {H J : Hp} : ∀ {s : Slot} {v : V} {g : List Addr}, RepS K H J s v g → ∀ a ∈ g, ∃ o, H a = some o
  | .non, _, _, h, _, _ => h.elim
  | .sh d, v, g, ⟨h1, h2⟩, a, q => by rw [h1] at q; cases q
  | .lst ds, v, g, ⟨a, xs, e1, e2, h, k⟩, b, q => by
    rw [e2] at q
    cases List.mem_singleton.mp q
    exact ⟨_, h⟩
  | .dct _ _, v, g, ⟨a, ho, e1, e2, h, k⟩, b, q => by
    rw [e2] at q
    cases List.mem_singleton.mp q
    exact ⟨_, h⟩

/-- a new shared object -/
theorem step_new {F : Addr → Prop} {H J : Hp} {p : Addr} {o : HO} (sm : Same J H) (hp : H p = none) : Step F H J F (upd H p o) (upd J p o) where
  js := fun b u e => by rw [upd_ne (ne_of_none (sm b u e) hp)]; exact e
  fr := fun b u e _ => by rw [upd_ne (ne_of_none e hp)]; exact e
  fn := fun _ h => .inl h
  jg := fun a q => by
    by_cases z : a = p
    · exact .inr (.inr (by rw [z]; exact hp))
    · rw [upd_ne z] at q; exact .inl q
/-- a new object of one's own -/
theorem step_own {F : Addr → Prop} {H J : Hp} {p : Addr} {o : HO} (hp : H p = none) : Step F H J (fun a => F a ∨ a = p) (upd H p o) J where
  js := Same.refl _
  fr := fun b u e _ => by rw [upd_ne (ne_of_none e hp)]; exact e
  fn := fun a h => h.imp id fun z => by rw [z]; exact hp
  jg := fun a q => .inl q
theorem same_upd {H J : Hp} {p : Addr} {o : HO} (sm : Same J H) (hp : H p = none) : Same J (upd H p o) := fun b u e => by
  rw [upd_ne (ne_of_none (sm b u e) hp)]
  exact sm b u e
theorem same_upd2 {H J : Hp} {p : Addr} {o : HO} (sm : Same J H) : Same (upd J p o) (upd H p o) := fun b u e => by
  by_cases z : b = p
  · rw [z, upd_same] at e ⊢; exact e
  · rw [upd_ne z] at e ⊢; exact sm b u e

section
variable {K : PySem.W.Frag} {H J H' J' : Hp} {sg : St} {r : Ro} {fp : Nat → List Addr}
/-- the slots stay over a step that doesn't touch them -/
theorem Wf.step {F F' : Addr → Prop} (w : Wf K H J sg r fp) (t : Step F H J F' H' J') (sm : Same J' H') (n : ∀ a, Own fp a → ¬ F a) : Wf K H' J' sg r fp where
  same := sm
  len := w.len
  rep := fun i s e ne => by
    obtain ⟨v, h1, h2⟩ := w.rep i s e ne
    exact ⟨v, h1, h2.step t fun a q => n a ⟨i, q⟩⟩
  emp := w.emp
  dis := w.dis
  jn := fun i a q => by
    obtain ⟨j0, o, ho⟩ := w.jn i a q
    have hF := n a ⟨i, q⟩
    refine ⟨?_, o, t.fr a o ho hF⟩
    cases e : J' a with
    | none => rfl
    | some u =>
      rcases t.jg a (by rw [e]; exact fun z => nomatch z) with z | z | z
      · exact absurd j0 z
      · exact absurd z hF
      · rw [ho] at z; cases z
theorem Wf.new {p : Addr} {o : HO} (w : Wf K H J sg r fp) (hp : H p = none) : Wf K (upd H p o) (upd J p o) sg r fp := by
  refine w.step (F := fun _ => False) (F' := fun _ => False) (step_new w.same hp) (same_upd2 w.same) fun a q z => z
theorem Wf.newOwn {p : Addr} {o : HO} (w : Wf K H J sg r fp) (hp : H p = none) : Wf K (upd H p o) J sg r fp := by
  refine w.step (F := fun _ => False) (F' := fun a => False ∨ a = p) (step_own hp) (same_upd w.same hp) fun a q z => z

/-- one slot's own addresses changed -/
def fpSet (fp : Nat → List Addr) (i : Nat) (g : List Addr) : Nat → List Addr := fun j => if j = i then g else fp j
theorem fpSet_same {i : Nat} {g : List Addr} : fpSet fp i g i = g := by unfold fpSet; rw [if_pos rfl]
theorem fpSet_ne {i j : Nat} {g : List Addr} (h : j ≠ i) : fpSet fp i g j = fp j := by unfold fpSet; rw [if_neg h]
theorem own_set {i : Nat} {g : List Addr} {a : Addr} (h : Own (fpSet fp i g) a) : a ∈ g ∨ Own fp a := by
  obtain ⟨j, q⟩ := h
  by_cases z : j = i
  · rw [z, fpSet_same] at q; exact .inl q
  · rw [fpSet_ne z] at q; exact .inr ⟨j, q⟩
theorem own_wipe {i : Nat} {a : Addr} (h : Own (fpSet fp i []) a) : Own fp a := (own_set h).elim (fun z => nomatch z) id
theorem own_wipe_ne {i : Nat} {a : Addr} (w : Wf K H J sg r fp) (h : a ∈ fp i) : ¬ Own (fpSet fp i []) a := fun ⟨j, q⟩ => by
  by_cases z : j = i
  · rw [z, fpSet_same] at q; cases q
  · rw [fpSet_ne z] at q; exact z (w.dis j i a q h)

/-- a slot forgotten -/
theorem Wf.drop (w : Wf K H J sg r fp) (i : Nat) : Wf K H J sg (r.set i .non) (fpSet fp i []) where
  same := w.same
  len := by rw [List.length_set]; exact w.len
  rep := fun j s e ne => by
    by_cases z : j = i
    · subst z
      by_cases hl : j < r.length
      · rw [List.getElem?_set_self hl] at e; cases e; exact absurd rfl ne
      · rw [List.getElem?_eq_none (by simpa using hl)] at e; cases e
    · rw [List.getElem?_set_ne (fun q => z q.symm)] at e
      rw [fpSet_ne z]
      exact w.rep j s e ne
  emp := fun j e => by
    by_cases z : j = i
    · rw [z, fpSet_same]
    · rw [List.getElem?_set_ne (fun q => z q.symm)] at e
      rw [fpSet_ne z]
      exact w.emp j e
  dis := fun j k a h1 h2 => by
    by_cases z : j = i
    · rw [z, fpSet_same] at h1; cases h1
    · by_cases y : k = i
      · rw [y, fpSet_same] at h2; cases h2
      · rw [fpSet_ne z] at h1; rw [fpSet_ne y] at h2; exact w.dis j k a h1 h2
  jn := fun j a h1 => by
    by_cases z : j = i
    · rw [z, fpSet_same] at h1; cases h1
    · rw [fpSet_ne z] at h1; exact w.jn j a h1
/-- a slot set -/
theorem Wf.put (w : Wf K H J sg r fp) {i : Nat} {s : Slot} {v : V} {g : List Addr} (hi : i < r.length) (hs : RepS K H J s v g) (hg : ∀ a ∈ g, J a = none ∧ ∀ j, j ≠ i → a ∉ fp j) : Wf K H J (sg.set i (some v)) (r.set i s) (fpSet fp i g) where
  same := w.same
  len := by rw [List.length_set, List.length_set]; exact w.len
  rep := fun j t e ne => by
    by_cases z : j = i
    · subst z
      rw [List.getElem?_set_self hi] at e
      cases e
      rw [fpSet_same]
      exact ⟨v, List.getElem?_set_self (by rw [w.len]; exact hi), hs⟩
    · rw [List.getElem?_set_ne (fun q => z q.symm)] at e
      rw [fpSet_ne z, List.getElem?_set_ne (fun q => z q.symm)]
      exact w.rep j t e ne
  emp := fun j e => by
    by_cases z : j = i
    · subst z
      rw [List.getElem?_set_self hi] at e
      rcases e with e | e
      · cases e
      · cases e; exact hs.elim
    · rw [List.getElem?_set_ne (fun q => z q.symm)] at e
      rw [fpSet_ne z]
      exact w.emp j e
  dis := fun j k a h1 h2 => by
    by_cases z : j = i
    · by_cases y : k = i
      · rw [z, y]
      · rw [z, fpSet_same] at h1; rw [fpSet_ne y] at h2; exact absurd h2 ((hg a h1).2 k y)
    · by_cases y : k = i
      · rw [y, fpSet_same] at h2; rw [fpSet_ne z] at h1; exact absurd h1 ((hg a h2).2 j z)
      · rw [fpSet_ne z] at h1; rw [fpSet_ne y] at h2; exact w.dis j k a h1 h2
  jn := fun j a h1 => by
    by_cases z : j = i
    · rw [z, fpSet_same] at h1; exact ⟨(hg a h1).1, hs.there a h1⟩
    · rw [fpSet_ne z] at h1; exact w.jn j a h1
/-- a slot set to what its name holds already -/
theorem Wf.putKeep (w : Wf K H J sg r fp) {i : Nat} {s : Slot} {v : V} {g : List Addr} (hi : i < r.length) (hv : sg[i]? = some (some v)) (hs : RepS K H J s v g) (hg : ∀ a ∈ g, J a = none ∧ ∀ j, j ≠ i → a ∉ fp j) : Wf K H J sg (r.set i s) (fpSet fp i g) := by
  have e : sg.set i (some v) = sg := by
    apply List.ext_getElem?
    intro j
    by_cases z : i = j
    · subst z; rw [List.getElem?_set_self (by rw [w.len]; exact hi), hv]
    · rw [List.getElem?_set_ne z]
  have q := w.put hi hs hg
  rw [e] at q
  exact q
/-- what a slot owns goes into the shared part -/
theorem Wf.freeze (w : Wf K H J sg r fp) {i : Nat} {s : Slot} {d : PyData} (e : r[i]? = some s) (hs : isOwn s = true) (hd : toSh s = some d) : ∃ v J', Sh K J' v d ∧ sg[i]? = some (some v) ∧ Wf K H J' sg (r.set i (.sh d)) (fpSet fp i []) ∧ Step (Own fp) H J (Own (fpSet fp i [])) H J' := by
  obtain ⟨v, hv, q⟩ := w.rep i _ e (fun z => by rw [z] at hs; cases hs)
  obtain ⟨a, ho, rfl, hg, ha, hsh⟩ := q.own hs hd
  have hi : i < r.length := (List.getElem?_eq_some_iff.mp e).1
  have own : Own fp a := ⟨i, by rw [hg]; exact List.mem_singleton.mpr rfl⟩
  have jn := (w.jn i a (by rw [hg]; exact List.mem_singleton.mpr rfl)).1
  have js : Same J (upd J a ho) := fun b u q => by rw [upd_ne (ne_of_none q jn)]; exact q
  have sm : Same (upd J a ho) H := fun b u q => by
    by_cases z : b = a
    · rw [z, upd_same] at q; rw [z, ← q]; exact ha
    · rw [upd_ne z] at q; exact w.same b u q
  have w1 := w.drop i
  have st : Step (fun b => b = a) H J (fun _ => False) H (upd J a ho) := ⟨js, fun _ _ h _ => h, fun _ h => h.elim, fun b q => by
    by_cases z : b = a
    · exact .inr (.inl z)
    · rw [upd_ne z] at q; exact .inl q⟩
  have hd' : Sh K (upd J a ho) (.ref a) d := hsh _ js upd_same
  have w2 : Wf K H (upd J a ho) sg (r.set i .non) (fpSet fp i []) := w1.step st sm fun b q2 z => by
    have z2 : b = a := z
    rw [z2] at q2
    exact own_wipe_ne w (by rw [hg]; exact List.mem_singleton.mpr rfl) q2
  refine ⟨_, upd J a ho, hd', hv, ?_, js, fun _ _ h _ => h, fun b q => .inl (own_wipe q), fun b q => (st.jg b q).imp id fun z => z.imp (fun y => by rw [y]; exact own) id⟩
  have w3 := w2.putKeep (i := i) (s := .sh d) (v := .ref a) (g := []) (by rw [List.length_set]; exact hi) hv ⟨rfl, hd'⟩ (fun b q => nomatch q)
  rw [List.set_set] at w3
  have e2 : fpSet (fpSet fp i []) i [] = fpSet fp i [] := by
    funext j
    by_cases z : j = i
    · rw [z, fpSet_same, fpSet_same]
    · rw [fpSet_ne z]
  rw [e2] at w3
  exact w3
end
end Ev
end

section
set_option maxHeartbeats 8000000
set_option Elab.async false
set_option linter.all false
set_option maxRecDepth 100000
namespace Ev
open PySem L2
variable [Errs]

/-! ### readings -/
theorem PE.imp {X : Cx} {e : Expr} {t t' : TE} (h : PE X e t) (i : ∀ sg H Q, t' sg H Q → t sg H Q) : PE X e t' := ⟨fun pins s sg H Q I q => h.run pins s sg H Q I (i sg H Q q)⟩
/-- the same with what is known of the heap -/
theorem PE.impI {X : Cx} {e : Expr} {t t' : TE} (h : PE X e t) (i : ∀ pins s sg H Q, Inv X pins sg H s → t' sg H Q → t sg H Q) : PE X e t' := ⟨fun pins s sg H Q I q => h.run pins s sg H Q I (i pins s sg H Q I q)⟩
theorem PT.imp {X : Cx} {e : Expr} {t t' : TT} (h : PT X e t) (i : ∀ sg H Q, t' sg H Q → t sg H Q) : PT X e t' := ⟨fun pins s sg H Q I q => h.run pins s sg H Q I (i sg H Q q)⟩
theorem PS.imp {X : Cx} {e : Stmt} {t t' : TS} (h : PS X e t) (i : ∀ D sg H, t' D sg H → t D sg H) : PS X e t' := ⟨fun pins s sg H D I q => h.run pins s sg H D I (i D sg H q)⟩
theorem PSs.imp {X : Cx} {e : List Stmt} {t t' : TS} (h : PSs X e t) (i : ∀ D sg H, t' D sg H → t D sg H) : PSs X e t' := ⟨fun pins s sg H D I q => h.run pins s sg H D I (i D sg H q)⟩
theorem PA.imp {X : Cx} {e : List Expr} {t t' : TA} (h : PA X e t) (i : ∀ sg H Q, t' sg H Q → t sg H Q) : PA X e t' := ⟨fun pos pins s sg H Q I q => h.run pos pins s sg H Q I (i sg H Q q)⟩
theorem PI.or {X : Cx} {tg e : Expr} {t t' : TI} (h : PI X tg e t) (h' : PI X tg e t') : PI X tg e (fun sg H Q => t sg H Q ∨ t' sg H Q) := ⟨fun pins s sg H Q I q => q.elim (fun q => h.run pins s sg H Q I q) fun q => h'.run pins s sg H Q I q⟩
theorem PI.imp {X : Cx} {tg e : Expr} {t t' : TI} (h : PI X tg e t) (i : ∀ sg H Q, t' sg H Q → t sg H Q) : PI X tg e t' := ⟨fun pins s sg H Q I q => h.run pins s sg H Q I (i sg H Q q)⟩

/-- an error as the evaluator says it -/
def XRep (K : PySem.W.Frag) (H J : Hp) (c : Nat) (fs : List (PyData × PyData)) (cls : Value) (d : Option Addr) : Prop :=
  c ∈ Errs.has ∧ cls = .ref (Errs.ca c) ∧ ((fs = [] ∧ d = none) ∨ ∃ dd f v x, d = some dd ∧ fs = [(.str f, x)] ∧ J dd = some (.xd [(f, v)]) ∧ Sh K J v x)

section
variable (K : PySem.W.Frag) (W : WX)

/-- how an evaluation from H, J, fp at the slots sg may end -/
def Fin {A : Type} (Rep : Hp → Hp → A → V → List Addr → Prop) (sg : St) (H J : Hp) (fp : Nat → List Addr) (x : R A) (Q : V → Hp → Prop) : Prop := match x with
  | .ok a r' => ∀ v H' J' fp' g, Wf K H' J' sg r' fp' → Rep H' J' a v g → (∀ b ∈ g, J' b = none ∧ ¬ Own fp' b) → Step (Own fp) H J (fun b => Own fp' b ∨ b ∈ g) H' J' → Q v H'
  | .ex c fs r' => ∀ H' J' fp' cls d, Wf K H' J' sg r' fp' → XRep K H' J' c fs cls d → Step (Own fp) H J (Own fp') H' J' → W cls d sg H'
  | .bad => False

def RepD (K : PySem.W.Frag) (H J : Hp) (d : PyData) (v : V) (g : List Addr) : Prop := g = [] ∧ Sh K J v d

variable (Phi : Nat → Ro → FR)
/-- an expression's reading -/
def tEv (c : CE) : TE := fun sg H Q => ∃ J r fp, Wf K H J sg r fp ∧ Fin K W (RepS K) sg H J fp (ev Phi c r) Q
/-- .. its value shared -/
def tSh (c : CE) : TE := fun sg H Q => ∃ J r fp, Wf K H J sg r fp ∧ Fin K W (RepD K) sg H J fp (ev Phi c r).sh Q
end

section
variable {K : PySem.W.Frag} {W : WX} {sg : St} {H J H1 J1 : Hp} {fp fp1 : Nat → List Addr} {A B : Type}
/-- seen from a later state -/
theorem Fin.later {Rep : Hp → Hp → A → V → List Addr → Prop} {x : R A} {Q : V → Hp → Prop} (s : Step (Own fp) H J (Own fp1) H1 J1) (h : Fin K W Rep sg H J fp x Q) : Fin K W Rep sg H1 J1 fp1 x Q := by
  cases x with
  | ok a r => exact fun v H' J' fp' g w q n t => h v H' J' fp' g w q n (s.trans t)
  | ex c fs r => exact fun H' J' fp' cls d w q t => h H' J' fp' cls d w q (s.trans t)
  | bad => exact h
theorem step_nil (s : Step (Own fp) H J (fun b => Own fp1 b ∨ b ∈ ([] : List Addr)) H1 J1) : Step (Own fp) H J (Own fp1) H1 J1 := s.weak fun _ h => .inl h
theorem nil_step (s : Step (Own fp) H J (Own fp1) H1 J1) : Step (Own fp) H J (fun b => Own fp1 b ∨ b ∈ ([] : List Addr)) H1 J1 := s.weak fun _ h => h.elim id fun z => nomatch z
/-- a first part, then the rest -/
theorem Fin.bindD {Rep : Hp → Hp → B → V → List Addr → Prop} {x : R PyData} {f : PyData → Ro → R B} {Q : V → Hp → Prop} {T : V → Hp → Prop} (h : Fin K W Rep sg H J fp (x.bind f) Q)
    (k : ∀ d r1 v H1 J1 fp1, x = .ok d r1 → Wf K H1 J1 sg r1 fp1 → Sh K J1 v d → Step (Own fp) H J (Own fp1) H1 J1 → Fin K W Rep sg H1 J1 fp1 (f d r1) Q → T v H1) : Fin K W (RepD K) sg H J fp x T := by
  cases x with
  | ok d r1 =>
    intro v H1 J1 fp1 g w q n t
    obtain ⟨rfl, q⟩ := q
    exact k d r1 v H1 J1 fp1 rfl w q (step_nil t) (Fin.later (step_nil t) h)
  | ex c fs r => exact h
  | bad => exact h
/-- what is one's own goes into the shared part -/
theorem freezeT {r : Ro} {s : Slot} {d : PyData} {v : V} {g : List Addr} (w : Wf K H J sg r fp) (hs : isOwn s = true) (hd : toSh s = some d) (q : RepS K H J s v g) (n : ∀ b ∈ g, J b = none ∧ ¬ Own fp b) : ∃ J', Sh K J' v d ∧ Wf K H J' sg r fp ∧ Step (fun b => Own fp b ∨ b ∈ g) H J (Own fp) H J' := by
  obtain ⟨a, ho, rfl, rfl, ha, hsh⟩ := q.own hs hd
  have jn := (n a (List.mem_singleton.mpr rfl)).1
  have nf := (n a (List.mem_singleton.mpr rfl)).2
  have js : Same J (upd J a ho) := fun b u q => by rw [upd_ne (ne_of_none q jn)]; exact q
  have sm : Same (upd J a ho) H := fun b u q => by
    by_cases z : b = a
    · rw [z, upd_same] at q; rw [z, ← q]; exact ha
    · rw [upd_ne z] at q; exact w.same b u q
  have st : Step (fun b => b = a) H J (fun _ => False) H (upd J a ho) := ⟨js, fun _ _ h _ => h, fun _ h => h.elim, fun b q => by
    by_cases z : b = a
    · exact .inr (.inl z)
    · rw [upd_ne z] at q; exact .inl q⟩
  refine ⟨upd J a ho, hsh _ js upd_same, w.step st sm fun b q2 z => by have z2 : b = a := z; rw [z2] at q2; exact nf q2, js, fun _ _ h _ => h, fun b q => .inl (.inl q), fun b q => ?_⟩
  rcases st.jg b q with z | z | z
  · exact .inl z
  · exact .inr (.inl (.inr (by rw [z]; exact List.mem_singleton.mpr rfl)))
  · exact .inr (.inr z)
theorem Fin.ofSh {x : R Slot} {Q : V → Hp → Prop} (h : Fin K W (RepD K) sg H J fp x.sh Q) : Fin K W (RepS K) sg H J fp x Q := by
  cases x with
  | ok s r1 =>
    intro v H1 J1 fp1 g w q n t
    cases s with
    | non => exact q.elim
    | sh d => exact h v H1 J1 fp1 g w q n t
    | lst ds =>
      obtain ⟨J2, q2, w2, s2⟩ := freezeT w rfl rfl q n
      exact h v H1 J2 fp1 [] w2 ⟨rfl, q2⟩ (fun b z => nomatch z) (nil_step (t.trans s2))
    | dct t' kvs =>
      obtain ⟨J2, q2, w2, s2⟩ := freezeT w rfl rfl q n
      exact h v H1 J2 fp1 [] w2 ⟨rfl, q2⟩ (fun b z => nomatch z) (nil_step (t.trans s2))
  | ex c fs r => exact h
  | bad => exact h
end
theorem PE.sh {X : Cx} {W : WX} {Phi : Nat → Ro → FR} {e : Expr} {c : CE} (h : PE X e (tEv X.K W Phi c)) : PE X e (tSh X.K W Phi c) := PE.imp h fun sg H Q ⟨J, r, fp, w, f⟩ => ⟨J, r, fp, w, Fin.ofSh f⟩

end Ev
end

section
set_option maxHeartbeats 8000000
set_option Elab.async false
set_option linter.all false
set_option maxRecDepth 100000
namespace Ev
open PySem L2
variable [Errs]

/-! ### operands -/
/-- a view: shared data, or a list or a dict that is somebody's own -/
def Vw (K : PySem.W.Frag) (H J : Hp) (v : V) (d : PyData) : Prop := Sh K J v d ∨ (∃ a xs ds, v = .ref a ∧ d = .list ds ∧ H a = some (.lst xs) ∧ ShAll K J xs ds) ∨
  ∃ a ho t kvs, v = .ref a ∧ d = .dict ((.bool t, .none) :: kvs) ∧ H a = some ho ∧ DRep K J ho t kvs
inductive Vws (K : PySem.W.Frag) (H J : Hp) : List V → List PyData → Prop
  | nil : Vws K H J [] []
  | cons {v : V} {vs : List V} {d : PyData} {ds : List PyData} : Vw K H J v d → Vws K H J vs ds → Vws K H J (v :: vs) (d :: ds)
theorem RepS.view {K : PySem.W.Frag} {H J : Hp} : ∀ {s : Slot} {v : V} {g : List Addr} {d : PyData}, RepS K H J s v g → toSh s = some d → Vw K H J v d
  | .non, _, _, _, _, e => nomatch e
  | .sh _, _, _, _, h, e => by cases e; exact .inl h.2
  | .lst ds, _, _, _, ⟨a, xs, h1, _, h3, h4⟩, e => by cases e; exact .inr (.inl ⟨a, xs, ds, h1, rfl, h3, h4⟩)
  | .dct t kvs, _, _, _, ⟨a, ho, h1, _, h3, h4⟩, e => by cases e; exact .inr (.inr ⟨a, ho, t, kvs, h1, rfl, h3, h4⟩)

/-- one operand: its value, the addresses that are its own -/
def OdR (K : PySem.W.Frag) (H J : Hp) (fp : Nat → List Addr) (sg : St) (o : Od) (v : V) (g : List Addr) : Prop := match o with
  | .pl i => g = [] ∧ sg[i]? = some (some v)
  | .da d => g = [] ∧ Sh K J v d
  | .tm s => RepS K H J s v g ∧ ∀ b ∈ g, J b = none ∧ ¬ Own fp b

/-- one operand's evaluation -/
def rd1 (Phi : Nat → Ro → FR) : CE → Ro → R Od
  | .var i, r => if has r i = true then .ok (.pl i) r else .bad
  | e, r => (ev Phi e r).sh.bind fun d r1 => .ok (.da d) r1
/-- one argument's -/
def ar1 (Phi : Nat → Ro → FR) : CE → Ro → R Od
  | .ref i, r => if has r i = true then .ok (.pl i) r else .bad
  | .own e, r => (ev Phi e r).bind fun s r1 => .ok (.tm s) r1
  | e, r => (ev Phi e r).sh.bind fun d r1 => .ok (.da d) r1
/-- one item's of a display -/
def it1 (Phi : Nat → Ro → FR) (e : CE) (r : Ro) : R Od := (ev Phi e r).sh.bind fun d r1 => .ok (.da d) r1
/-- many of them -/
def many (f : CE → Ro → R Od) : CEs → Ro → R (List Od)
  | .nil, r => .ok [] r
  | .cons e es, r => (f e r).bind fun d r1 => (many f es r1).bind fun ds r2 => .ok (d :: ds) r2
theorem R.bind_bind {A B C : Type} (x : R A) (f : A → Ro → R B) (g : B → Ro → R C) : (x.bind f).bind g = x.bind fun a r => (f a r).bind g := by cases x <;> rfl
theorem R.ok_bind {A B : Type} (a : A) (r : Ro) (f : A → Ro → R B) : (R.ok a r).bind f = f a r := rfl
theorem R.bind_congr {A B : Type} (x : R A) {f g : A → Ro → R B} (h : ∀ a r, f a r = g a r) : x.bind f = x.bind g := by cases x <;> simp [R.bind, h]
theorem rds_many (Phi : Nat → Ro → FR) : ∀ (es : CEs) (r : Ro), rds Phi es r = many (rd1 Phi) es r
  | .nil, r => by simp only [rds, many]
  | .cons e es, r => by
    have ih := fun r => rds_many Phi es r
    cases e <;> simp only [rds, many, rd1, R.bind_bind, R.ok_bind] <;> first | (split <;> first | (simp only [R.ok_bind]; rw [ih]; done) | rfl) | exact R.bind_congr _ fun a r => by rw [ih]
theorem evA_many (Phi : Nat → Ro → FR) : ∀ (es : CEs) (r : Ro), evA Phi es r = many (ar1 Phi) es r
  | .nil, r => by simp only [evA, many]
  | .cons e es, r => by
    have ih := fun r => evA_many Phi es r
    cases e <;> simp only [evA, many, ar1, R.bind_bind, R.ok_bind] <;> first | (split <;> first | (simp only [R.ok_bind]; rw [ih]; done) | rfl) | exact R.bind_congr _ fun a r => by rw [ih]
/-- the data of a display -/
def dasOf : List Od → List PyData
  | [] => []
  | .da d :: x => d :: dasOf x
  | _ :: x => dasOf x
theorem evs_many (Phi : Nat → Ro → FR) : ∀ (es : CEs) (r : Ro), evs Phi es r = (many (it1 Phi) es r).bind fun x r1 => .ok (dasOf x) r1
  | .nil, r => by simp only [evs, many, R.ok_bind, dasOf]
  | .cons e es, r => by
    have ih := fun r => evs_many Phi es r
    simp only [evs, many, it1, R.bind_bind, R.ok_bind]
    refine R.bind_congr _ fun a r => ?_
    rw [ih, R.bind_bind]
    exact R.bind_congr _ fun x r1 => by simp only [R.ok_bind, dasOf]
/-- operands, what they own apart from one another -/
inductive Ods (K : PySem.W.Frag) (H J : Hp) (fp : Nat → List Addr) (sg : St) : List Od → List V → List Addr → Prop
  | nil : Ods K H J fp sg [] [] []
  | cons {o : Od} {x : List Od} {v : V} {vs : List V} {g gs : List Addr} : OdR K H J fp sg o v g → (∀ b ∈ g, b ∉ gs) → Ods K H J fp sg x vs gs → Ods K H J fp sg (o :: x) (v :: vs) (g ++ gs)

theorem has_some {r : Ro} {i : Nat} (h : has r i = true) : ∃ s, r[i]? = some s ∧ s ≠ .non := by
  unfold has at h
  split at h <;> first | (rename_i e; exact ⟨_, e, fun z => nomatch z⟩) | cases h
/-- off a step: what was apart is apart -/
theorem Step.off {H J H1 J1 : Hp} {F F' : Addr → Prop} (t : Step F H J F' H1 J1) {b : Addr} (hj : J b = none) (hF : ¬ F b) (ho : ∃ o, H b = some o) : J1 b = none ∧ ¬ F' b := by
  obtain ⟨o, ho⟩ := ho
  refine ⟨?_, fun q => ?_⟩
  · cases e : J1 b with
    | none => rfl
    | some u =>
      rcases t.jg b (by rw [e]; exact fun z => nomatch z) with z | z | z
      · exact absurd hj z
      · exact absurd z hF
      · rw [ho] at z; cases z
  · rcases t.fn b q with z | z
    · exact hF z
    · rw [ho] at z; cases z
section
variable {K : PySem.W.Frag} {W : WX} {sg : St} {H J H1 J1 H2 J2 : Hp} {fp fp1 fp2 : Nat → List Addr} {A B : Type}
theorem OdR.off {o : Od} {v : V} {g : List Addr} (h : OdR K H J fp sg o v g) : ∀ b ∈ g, J b = none ∧ ¬ Own fp b ∧ ∃ o, H b = some o := by
  cases o with
  | pl i => intro b q; rw [h.1] at q; cases q
  | da d => intro b q; rw [h.1] at q; cases q
  | tm s => exact fun b q => ⟨(h.2 b q).1, (h.2 b q).2, h.1.there b q⟩
theorem OdR.step {o : Od} {v : V} {g : List Addr} {gs : List Addr} (h : OdR K H J fp sg o v g) (t : Step (Own fp) H J (fun b => Own fp1 b ∨ b ∈ gs) H1 J1) : OdR K H1 J1 fp1 sg o v g ∧ ∀ b ∈ g, b ∉ gs := by
  have off := h.off
  refine ⟨?_, fun b q z => (t.off (off b q).1 (off b q).2.1 (off b q).2.2).2 (.inr z)⟩
  cases o with
  | pl i => exact h
  | da d => exact ⟨h.1, shMono t.js h.2⟩
  | tm s =>
    refine ⟨h.1.step t fun b q => (h.2 b q).2, fun b q => ?_⟩
    have z := t.off (off b q).1 (off b q).2.1 (off b q).2.2
    exact ⟨z.1, fun y => z.2 (.inl y)⟩
theorem Ods.off : ∀ {x : List Od} {vs : List V} {gs : List Addr}, Ods K H J fp sg x vs gs → ∀ b ∈ gs, J b = none ∧ ¬ Own fp b ∧ ∃ o, H b = some o
  | _, _, _, .nil, b, q => nomatch q
  | _, _, _, .cons h n k, b, q => (List.mem_append.mp q).elim (h.off b) (k.off b)
theorem Ods.len : ∀ {x : List Od} {vs : List V} {gs : List Addr}, Ods K H J fp sg x vs gs → vs.length = x.length
  | _, _, _, .nil => rfl
  | _, _, _, .cons _ _ k => by rw [List.length_cons, List.length_cons, k.len]
theorem Ods.views {r : Ro} (w : Wf K H J sg r fp) : ∀ {x : List Od} {vs : List V} {gs : List Addr} {ds : List PyData}, Ods K H J fp sg x vs gs → rdOs r x = some ds → Vws K H J vs ds
  | _, _, _, _, .nil, e => by simp only [rdOs] at e; cases e; exact .nil
  | _, _, _, ds, .cons (o := o) (x := x) (v := v) h _ k, e => by
    simp only [rdOs] at e
    cases e1 : rdO r o with
    | none => rw [e1] at e; cases e
    | some d =>
      rw [e1] at e
      cases e2 : rdOs r x with
      | none => simp only [e2] at e; cases e
      | some ds' =>
        simp only [e2] at e
        cases e
        refine .cons ?_ (k.views w e2)
        cases o with
        | da d' => simp only [rdO] at e1; cases e1; exact .inl h.2
        | tm s => simp only [rdO] at e1; cases e1
        | pl i =>
          simp only [rdO] at e1
          cases e3 : r[i]? with
          | none => rw [e3] at e1; cases e1
          | some s =>
            rw [e3] at e1
            simp only at e1
            obtain ⟨v', hv, q⟩ := w.rep i s e3 (fun z => by rw [z] at e1; cases e1)
            rw [h.2] at hv
            cases hv
            exact q.view e1
end

section
variable (K : PySem.W.Frag) (W : WX) (f1 : CE → Ro → R Od)
/-- how an operand's evaluation may end -/
def FinO (sg : St) (H J : Hp) (fp : Nat → List Addr) (x : R Od) (Q : V → Hp → Prop) : Prop := match x with
  | .ok a r' => ∀ v H' J' fp' g, Wf K H' J' sg r' fp' → OdR K H' J' fp' sg a v g → Step (Own fp) H J (fun b => Own fp' b ∨ b ∈ g) H' J' → Q v H'
  | .ex c fs r' => ∀ H' J' fp' cls d, Wf K H' J' sg r' fp' → XRep K H' J' c fs cls d → Step (Own fp) H J (Own fp') H' J' → W cls d sg H'
  | .bad => False
def FinOs (sg : St) (H J : Hp) (fp : Nat → List Addr) (x : R (List Od)) (Q : List V → Hp → Prop) : Prop := match x with
  | .ok a r' => ∀ vs H' J' fp' gs, Wf K H' J' sg r' fp' → Ods K H' J' fp' sg a vs gs → Step (Own fp) H J (fun b => Own fp' b ∨ b ∈ gs) H' J' → Q vs H'
  | .ex c fs r' => ∀ H' J' fp' cls d, Wf K H' J' sg r' fp' → XRep K H' J' c fs cls d → Step (Own fp) H J (Own fp') H' J' → W cls d sg H'
  | .bad => False
/-- an operand's reading -/
def tOpd (c : CE) : TE := fun sg H Q => ∃ J r fp, Wf K H J sg r fp ∧ FinO K W sg H J fp (f1 c r) Q
def seqOpd : CEs → TA
  | .nil => tNil
  | .cons c cs => tCons (tOpd K W f1 c) (seqOpd cs)
end

section
variable {K : PySem.W.Frag} {W : WX} {f1 : CE → Ro → R Od} {sg : St}
theorem finO_sh {H J : Hp} {fp : Nat → List Addr} {x : R PyData} {Q : V → Hp → Prop} (h : FinO K W sg H J fp (x.bind fun d r1 => .ok (.da d) r1) Q) : Fin K W (RepD K) sg H J fp x Q := by
  cases x with
  | ok d r => exact fun v H' J' fp' g w q n t => h v H' J' fp' g w q t
  | ex c fs r => exact h
  | bad => exact h
theorem seqOpd_of : ∀ (es : CEs) {H J : Hp} {r : Ro} {fp : Nat → List Addr} {Q : List V → Hp → Prop}, Wf K H J sg r fp → FinOs K W sg H J fp (many f1 es r) Q → seqOpd K W f1 es sg H Q
  | .nil, H, J, r, fp, Q, w, h => h [] H J fp [] w .nil (nil_step Step.refl)
  | .cons c cs, H, J, r, fp, Q, w, h => by
    have h : FinOs K W sg H J fp ((f1 c r).bind fun d r1 => (many f1 cs r1).bind fun ds r2 => .ok (d :: ds) r2) Q := h
    refine ⟨J, r, fp, w, ?_⟩
    cases e : f1 c r with
    | bad => rw [e] at h; exact h
    | ex c fs r1 => rw [e] at h; exact h
    | ok a r1 =>
      rw [e] at h
      intro v H1 J1 fp1 g w1 o1 t1
      have off := o1.off
      have key : ∀ {F : Addr → Prop} {H2 J2 : Hp}, Step (Own fp1) H1 J1 F H2 J2 → Step (Own fp) H J (fun b => F b ∨ b ∈ g) H2 J2 := fun {F H2 J2} t2 => by
        have t1' : Step (Own fp) H J (fun b => Own fp1 b ∨ b ∈ g) H1 J1 := t1
        have t2' : Step (fun b => Own fp1 b ∨ b ∈ g) H1 J1 (fun b => F b ∨ b ∈ g) H2 J2 := ⟨t2.js, fun b o q n => t2.fr b o q fun z => n (.inl z), fun b q => q.elim (fun q => (t2.fn b q).imp .inl id) fun q => .inl (.inr q), fun b q => (t2.jg b q).imp id fun z => z.imp .inl id⟩
        exact t1'.trans t2'
      refine seqOpd_of cs w1 ?_
      show FinOs K W sg H1 J1 fp1 (many f1 cs r1) _
      have h' : FinOs K W sg H J fp ((R.ok a r1).bind fun d r1 => (many f1 cs r1).bind fun ds r2 => .ok (d :: ds) r2) Q := h
      cases e2 : many f1 cs r1 with
      | bad =>
        simp only [R.bind, e2] at h'
        exact h'
      | ex c fs r2 =>
        simp only [R.bind, e2] at h'
        exact fun H2 J2 fp2 cls dd w2 x2 t2 => h' H2 J2 fp2 cls dd w2 x2 ((key t2).weak fun b z => .inl z)
      | ok x r2 =>
        simp only [R.bind, e2] at h'
        intro vs H2 J2 fp2 gs w2 o2 t2
        obtain ⟨o3, n3⟩ := o1.step t2
        refine h' (v :: vs) H2 J2 fp2 (g ++ gs) w2 (.cons o3 n3 o2) ((key t2).weak fun b q => ?_)
        rcases q with q | q
        · exact .inl (.inl q)
        · exact (List.mem_append.mp q).elim .inr fun z => .inl (.inr z)
end
end Ev
end

section
set_option maxHeartbeats 8000000
set_option Elab.async false
set_option linter.all false
set_option maxRecDepth 100000
/-! A number is never equal to a dict. -/
namespace Ev
open PySem PySem.SeqAt PySem.Spec PyProof.Rows
theorem dict_eq_declines_int (l : Addr) (es : Array DictEntry) (n : Nat) (dd : Option Addr) (sl : Array (Option Value)) (b : Int) (u : Tok) :
    Meets (Builtin.«dict.__eq__» ⟨[.ref l, .int b u], []⟩) (fun _ R s => s.heap.get? l = some { cls := .type "dict", dict := dd, data := .dict es n, slots := sl } ∧ R (.ok (.ret .notImplemented)) s) :=
  .of_wp fun prog w A R s h => by obtain ⟨hp, g, d, tk, os⟩ := s; obtain ⟨hl, h⟩ := h; have f1 := F.sub_int_dict; wp_walk using wpAny_loadPart' hl, wpAny_load hl; exact ⟨_, rfl, h⟩
theorem int_eq_declines_dict (b : Int) (u : Tok) (l : Addr) (c : Value) (es : Array DictEntry) (n : Nat) (dd : Option Addr) (sl : Array (Option Value)) :
    Meets (Builtin.«int.__eq__» ⟨[.int b u, .ref l], []⟩) (fun _ R s => s.heap.get? l = some { cls := c, dict := dd, data := .dict es n, slots := sl } ∧ R (.ok (.ret .notImplemented)) s) :=
  .of_wp fun prog w A R s h => by obtain ⟨hp, g, d, tk, os⟩ := s; obtain ⟨hl, h⟩ := h; wp_walk using wpAny_loadPart' hl, wpAny_load hl; exact ⟨_, rfl, h⟩
section
variable {A : Around} {s : Shared}
theorem rc_int_dict {l : Addr} {o : Obj} {es : Array DictEntry} {n : Nat} (b : Int) (u : Tok) (ho : s.heap.get? l = some o) (hc : o.cls = .type "dict") (hd : o.data = .dict es n) (hu : A.units < cLine) : RcAt A s (.int b u) (.ref l) false := fun prog w E Q h => by
  obtain ⟨cls, dd, data, sl⟩ := o
  simp only at hc hd
  subst hc hd
  exact rc_eq_decline_or (k := false) (typeIs_int s b u) ⟨_, ho, rfl⟩ (by decide) F.sub_dict_int F.slot_int_eq F.slot_dict_eq_refl
    (fun _ hq => call_meets F.slot_int_eq (typeIs_int s b u) F.entry_int_eq (F.args_int_eq_2 _ _) (int_eq_declines_dict b u l (.type "dict") es n dd sl) ⟨ho, hq⟩)
    (fun _ hq => call_meets F.slot_dict_eq_refl ⟨_, ho, rfl⟩ F.entry_dict_eq (F.args_dict_eq_2 _ _) (dict_eq_declines_int l es n dd sl b u) ⟨ho, hq⟩)
    (fun _ hq => wpAny_of_eq (rfl : isSame (.int b u) (.ref l) = pure false) hq) (.inr hu) h
theorem eqAt_int_dict {l : Addr} {o : Obj} {es : Array DictEntry} {n : Nat} (b : Int) (u : Tok) (ho : s.heap.get? l = some o) (hc : o.cls = .type "dict") (hd : o.data = .dict es n) (hu : A.units < cLine) : EqAt A s (.int b u) (.ref l) false := fun prog w E Q h => by
  unfold eqBool
  refine wpAny_holding ?_
  refine wpAny_ite_split (fun hab => absurd (eq_of_beq hab) nofun) (fun _ => ?_)
  exact wpAny_bind (rc_int_dict b u ho hc hd hu prog w E _ (wpAny_truthy_bool h))
end
end Ev
end

section
set_option Elab.async false
set_option linter.all false
set_option maxRecDepth 100000
set_option maxHeartbeats 2000000
/-! t[::-1], t a tuple; repr. -/
namespace Ev
open PySem PySem.Spec PyProof.Rows HT
section
variable {prog : Program} {w : World} {A : Around} {E : Value → Shared → Prop} {s : Shared}
theorem adjust_rev (n : Nat) : Builtin.Slice.sliceAdjust none none (-1) (n : Int) = ((n : Int) - 1, -1) := by
  unfold Builtin.Slice.sliceAdjust
  simp
theorem places_rev (n : Nat) : Builtin.Slice.slicePlaces ((n : Int) - 1) (-1) (-1) = n := by
  unfold Builtin.Slice.slicePlaces
  have h1 : ¬ ((-1 : Int) > 0) := by omega
  rw [if_neg h1]
  split
  · rw [show -(-1 : Int) = 1 by rfl, Int.ediv_one]; omega
  · omega
theorem fm_map {α β : Type} {f : α → Option β} {g : α → β} : ∀ {l : List α}, (∀ m ∈ l, f m = some (g m)) → l.filterMap f = l.map g
  | [], _ => rfl
  | a :: l, h => by
    rw [List.filterMap_cons, h a (List.mem_cons_self ..), List.map_cons, fm_map fun m q => h m (List.mem_cons_of_mem _ q)]
theorem pick_rev (xs : Array Value) : ((List.range xs.size).filterMap fun (m : Nat) => xs[((xs.size : Int) - 1 + (m : Int) * (-1)).toNat]?).toArray = xs.toList.reverse.toArray := by
  congr 1
  have e : ∀ m ∈ List.range xs.size, xs[((xs.size : Int) - 1 + (m : Int) * (-1)).toNat]? = some (xs.toList.reverse.getD m .none) := by
    intro m hm
    have hm := List.mem_range.mp hm
    have : ((xs.size : Int) - 1 + (m : Int) * (-1)).toNat = xs.size - 1 - m := by omega
    rw [this, List.getD_eq_getElem?_getD, List.getElem?_reverse (by simpa using hm)]
    have h2 : xs.size - 1 - m < xs.size := by omega
    simp [h2]
  have h2 : (List.range xs.size).filterMap (fun (m : Nat) => xs[((xs.size : Int) - 1 + (m : Int) * (-1)).toNat]?) = (List.range xs.size).map fun m => xs.toList.reverse.getD m .none := by
    exact fm_map e
  rw [h2]
  apply List.ext_getElem?
  intro i
  rw [List.getElem?_map]
  by_cases h : i < xs.size
  · rw [List.getElem?_range h]
    have : i < xs.toList.reverse.length := by simpa using h
    rw [Option.map_some, List.getD_eq_getElem?_getD, List.getElem?_eq_getElem this]
    rfl
  · have h3 : (List.range xs.size)[i]? = none := by simp; omega
    have h4 : xs.toList.reverse[i]? = none := by simp; omega
    rw [h3, h4]; rfl
theorem applied_rev {sl : Addr} {vl vu vs : Value} {n : Nat} {Q : Int × Int × Nat → Shared → Prop} (hs : s.heap.IsSliceOf sl vl vu vs) (pl : IsPart vl none) (pu : IsPart vu none) (ps : IsPart vs (some (-1)))
    (h : Q ((n : Int) - 1, -1, n) s) : wpAny (model prog w) A (Builtin.Slice.sliceApplied (.ref sl) (pure (n : Int))) Q E s := by
  obtain ⟨os, ho, hc, hd⟩ := id hs
  unfold Builtin.Slice.sliceApplied Builtin.Slice.sliceFields
  refine wpAny_bind (wpAny_bind (wpAny_field ho hd (x := vl) rfl (wpAny_bind (wpAny_field ho hd (x := vu) rfl (wpAny_bind (wpAny_field ho hd (x := vs) rfl (wpAny_pure ?_)))))))
  refine wpAny_bind (slicePart_ ps ?_)
  show wpAny _ _ (if ((-1 : Int) == 0) = true then _ else _) _ _ s
  rw [if_neg (by decide)]
  refine wpAny_bind (slicePart_ pl (wpAny_bind (slicePart_ pu (wpAny_bind (wpAny_pure ?_)))))
  show wpAny _ _ (match Builtin.Slice.sliceAdjust none none (-1) (n : Int) with | (lo, hi) => pure (lo, (-1 : Int), Builtin.Slice.slicePlaces lo hi (-1))) _ _ s
  rw [adjust_rev n]
  show wpAny _ _ (pure ((n : Int) - 1, (-1 : Int), Builtin.Slice.slicePlaces ((n : Int) - 1) (-1) (-1))) _ _ s
  rw [places_rev]
  exact wpAny_pure h
theorem getItem_rev {t sl : Addr} {items : Array Value} {vl vu vs : Value} {Q : Value → Shared → Prop} (ht : IsTup s.heap t items) (hs : s.heap.IsSliceOf sl vl vu vs) (pl : IsPart vl none) (pu : IsPart vu none) (ps : IsPart vs (some (-1)))
    (h : Q (.ref s.heap.objs.size) { s with heap := s.heap.push { cls := .type "tuple", data := .seq items.toList.reverse.toArray } })
    (hsz : items.size ≤ sizeLine) : wpAny (model prog w) A (getItem (.ref t) (.ref sl)) Q E s := by
  have hz : sizeOk (.seq items.toList.reverse.toArray) := by
    show items.toList.reverse.toArray.size ≤ sizeLine
    simpa using hsz
  obtain ⟨os, ho, hc, hd⟩ := id hs
  have hT : s.TypeIs (.ref sl) "slice" := ⟨os, ho, hc⟩
  unfold getItem
  try with_reducible refine wpAny_holding ?_
  first | refine wpAny_bind (wpAny_pure ?_) | skip
  refine wpAny_bind (wpAny_sequenceKey ht.typeIs (by decide) ?_)
  refine wpAny_bind (wpAny_callSpecial?_slot (name := Str.ofString "__getitem__") ht.typeIs PyProof.Rows.slot_tuple_getitem (wpAny_call_entry PyProof.Rows.slot_tuple_getitem ht.typeIs entry_tuple_getitem ?_ (args_tuple_getitem _ _)))
  show wpAny _ _ (Builtin.Tuple.tupleItemsOf (.ref t) >>= _) _ _ s
  refine wpAny_bind (tupleItemsOf_ ht (wpAny_bind (wpAny_typeOf hT ?_)))
  rw [if_pos (by decide)]
  refine wpAny_bind (applied_rev hs pl pu ps ?_)
  have hno : ¬ ((((items.size : Int) - 1) == 0 && (-1 : Int) == 1 && items.size == items.size) = true) := by
    intro q
    rw [Bool.and_eq_true, Bool.and_eq_true] at q
    exact absurd (eq_of_beq q.1.2 : (-1 : Int) = 1) (by decide)
  show wpAny _ _ (if (((items.size : Int) - 1) == 0 && (-1 : Int) == 1 && items.size == items.size) = true then _ else _) _ _ s
  rw [if_neg hno, pick_rev]
  first
    | exact wpAny_bind (m := Builtin.Tuple.tupleExact _) (wpAny_newObj_type (wpAny_pure ⟨_, rfl, wpAny_pure h⟩) hz)
    | exact wpAny_bind (m := Builtin.Tuple.tupleExact _) (wpAny_newObj_type (wpAny_bind (wpAny_pure (wpAny_pure ⟨_, rfl, wpAny_pure h⟩))) hz)
    | exact wpAny_bind (wpAny_bind (m := Builtin.Tuple.tupleExact _) (wpAny_newObj_type (wpAny_pure (wpAny_pure ⟨_, rfl, wpAny_pure h⟩)) hz))
    | exact wpAny_bind (wpAny_bind (m := Builtin.Tuple.tupleExact _) (wpAny_newObj_type (wpAny_pure ⟨_, rfl, wpAny_pure h⟩) hz))
end
open L2
section
variable {X : Cx}
/-- xs[::-1], xs a list or a tuple -/
def tRevA (K : PySem.W.Frag) (te : TE) : TE := fun sg H Q => te sg H fun x H1 => ∃ a xs, x = .ref a ∧ ((SqL K H1 a xs ∧ ∀ p, H1 p = none → Q (.ref p) (upd H1 p (.lst xs.reverse))) ∨ (SqT K H1 a xs ∧ ∀ p, H1 p = none → Q (.ref p) (upd H1 p (.tup xs.reverse))))
theorem pe_revA {e : Expr} {te : TE} {k : Nat} {p1 p2 p3 pos : Pos} (he : PE X e te) : PE X (.Subscript e (.Slice none none (some (.UnaryOp .USub (.Constant (.int 1) k p1) p2)) p3) pos) (tRevA X.K te) := by
  refine ⟨fun pins s sg H Q I h => Subscript_ (thn (he.run pins s sg H _ I h) ?_)⟩
  rintro v s1 ⟨x, H1, I1, r1, a, xs, rfl, q⟩
  cases r1
  have hst : PO X (some (.UnaryOp .USub (.Constant (.int 1) k p1) p2)) (tPart (tUn (rU fun i => .int (-i)) (tC (.int 1)))) := po_some (pe_un un_neg pe_int)
  refine wpAny_Slice (thn (po_none.run pins s1 sg H1 (fun o H2 => o = none ∧ H2 = H1) I1 ⟨rfl, rfl⟩) ?_)
  rintro vl s2 ⟨_, _, I2, pl, rfl, rfl⟩
  refine thn (po_none.run pins s2 sg _ (fun o H3 => o = none ∧ H3 = _) I2 ⟨rfl, rfl⟩) ?_
  rintro vu s3 ⟨_, _, I3, pu, rfl, rfl⟩
  refine thn (hst.run pins s3 sg _ (fun o H4 => o = some (-1) ∧ H4 = _) I3 ⟨1, rfl, -1, rfl, rfl, rfl⟩) ?_
  rintro vs s4 ⟨_, H4, I4, ps, rfl, rfl⟩
  have I5 : Inv X pins sg H4 { s4 with heap := s4.heap.push { cls := .type "slice", data := .fields #[vl, vu, vs] } } := I4.kept (t' := s4.toks) fun b ob q => Heap.get?_push_of_some _ q
  show wpAny (model X.prog X.w) X.A (subscriptTail e (.Slice none none (some (.UnaryOp .USub (.Constant (.int 1) k p1) p2)) p3) (.ref a) (.ref s4.heap.objs.size)) (EP X pins sg Q) X.xe { s4 with heap := s4.heap.push { cls := .type "slice", data := .fields #[vl, vu, vs] } }
  rcases q with ⟨hx, q⟩ | ⟨hx, q⟩
  · obtain ⟨its, r, ht, hz⟩ := I5.list hx
    have hlen := r.length
    refine tail_any (ops := [.ref a, .ref s4.heap.objs.size]) ht.isList.typeIs (PySem.slot_list_getitem.lookup) ?_ (by with_unfolding_all rfl)
    refine wpAny_getItem_list_slice ht.isList (Heap.IsSliceOf.new _ vl vu vs) pl pu ps (by decide) ?_ (by rw [List.size_toArray]; omega)
    rw [PySem.W.krv_pick]
    refine ⟨.ref _, _, I5.laid (t' := s4.toks) (o := .lst xs.reverse) (fun b ob q => Heap.get?_push_of_some _ q) (Nat.le_refl _) ?_, rfl, q _ (I5.hok.fresh (Nat.le_refl _))⟩
    exact ⟨by rw [List.length_reverse]; exact hz, _, 0, r.reverse, Heap.get?_push_size _ rfl⟩
  · obtain ⟨its, r, ht, hz⟩ := I5.tuple hx
    have hlen := r.length
    refine tail_any (ops := [.ref a, .ref s4.heap.objs.size]) ht.typeIs (PyProof.Rows.slot_tuple_getitem.lookup) ?_ (by with_unfolding_all rfl)
    refine getItem_rev ht (Heap.IsSliceOf.new _ vl vu vs) pl pu ps ?_ (by rw [List.size_toArray]; omega)
    refine ⟨.ref _, _, I5.laid (t' := s4.toks) (o := .tup xs.reverse) (fun b ob q => Heap.get?_push_of_some _ q) (Nat.le_refl _) ?_, rfl, q _ (I5.hok.fresh (Nat.le_refl _))⟩
    exact ⟨by rw [List.length_reverse]; exact hz, its.reverse, r.reverse, IsTup.new _ _⟩
end
end Ev
end

section
set_option maxHeartbeats 8000000
set_option Elab.async false
set_option linter.all false
set_option maxRecDepth 100000
/-! Calls while no repr is under way. -/
namespace Ev
open PySem PySem.Spec PyProof.Rows L2
/-- a def keeps its promise, where no repr is under way -/
structure FnG (P : Program) (w : World) (K : PySem.W.Frag) (mg : Str → Option Value) (base : Heap) (CX : CXT) (k : Nat) (f : Addr) (fd : FuncData) (ps : List Str) (sp : Sp) : Prop where
  len : ∀ vs H Q E, sp vs H Q E → vs.length = ps.length
  run : ∀ (A : Around) (ou : List Env) (s : Shared) (H : Hp) (ar : Args) (us : List Value) (vs : List V) (Q : VK) (E : XK), A.guards = some [] → Room k A → Env0 P w K mg base A ou s H → BindsTo s fd ar (ps.zip us) → Vals vs us → sp vs H Q E → codeAny (model P w) A (.call (.ref f) ar) (CR CX ou P w H s Q E) s
section
variable {CX : CXT} {P : Program} {w : World} {K : PySem.W.Frag} {mg : Str → Option Value} {base : Heap}
theorem fnG_of {k : Nat} {f : Addr} {nm qu : Str} {pa : Arguments} {bd : List Stmt} {sc : Scope} {dV kV dc pm cv ct oc : Value} {an od : Option Addr} {os : Array (Option Value)} {N ps : List Str} {sp : Sp}
    (lk : K.lookup f = some ⟨oc, od, .func (PySem.W.fnOf nm qu pa bd sc dV kV dc pm an cv ct), os⟩) (hc : PySem.W.codeIn K cv qu = true) (S : FnScope N ps sc) (len : ∀ vs H Q E, sp vs H Q E → vs.length = ps.length)
    (hbd : ∀ (A : Around) (ou : List Env) (s : Shared) (H : Hp) (vs : List V) (Q : VK) (E : XK), A.guards = some [] → Room k (A.deeper (envOfC qu sc s.heap.objs.size f cv)) → sp vs H Q E → ∃ t, PSs (cxOf CX P w K mg base N qu sc f cv A ou s H E) bd t ∧ t { nx := fun _ H' => Q .non H', rt := Q } (start N vs) H) :
    FnG P w K mg base CX (k + 1) f (PySem.W.fnOf nm qu pa bd sc dV kV dc pm an cv ct) ps sp where
  len := len
  run := by
    intro A ou s H ar us vs Q E gd hr e0 hb rv hs
    have kx : K.In s.heap := e0.mod.kin.keeps fun b o q => (e0.bs b o q).1
    have nl : s.heap.NoLimit := e0.mod.nolimit.keeps fun b o q => (e0.bs b o q).1
    have hkd : ∀ y ∈ ps.zip us, sc.names.lookup y.1 = some .local ∨ (sc.names.lookup y.1 = some .cell ∧ ((cellsFrom (s.heap.objs.size + 1) sc.names []).lookup y.1).isSome = true) := by
      rintro ⟨n, v⟩ hy
      exact (S.par n (List.of_mem_zip hy).1).imp id fun q => ⟨q, PySem.W.cellsFrom_some _ _ _ (.inl q)⟩
    refine codeAny_call_function hr.depth (kx _ _ lk) rfl S.co S.gen rfl (PySem.W.codeRec_of kx hc) (hb _ _ _ _ (wpAny_newFunctionEnv_cells S.kind hkd ?_))
    intro en he s1 x
    subst he
    refine ⟨nl.keeps x.toInCall.keep, codeAny_func ?_⟩
    obtain ⟨t, ht, q⟩ := hbd A ou s H vs Q E gd (hr.deeper _) hs
    have st := ht.run [] s1 (start N vs) H _ (inv_start S hr.hd e0 (len _ _ _ _ hs) rv x) q
    refine wpAny_mono st (fun fl s' z => ?_) fun _ _ z => z
    cases fl with
    | ret u => obtain ⟨v, _, H', J, r, q⟩ := z; exact ⟨v, H', J.os, J.bare, J.base, J.hok, r, q⟩
    | next => obtain ⟨_, H', J, q⟩ := z; exact ⟨V.non, H', J.os, J.bare, J.base, J.hok, rfl, q⟩
    | brk => obtain ⟨_, _, _, q⟩ := z; cases q
    | cont => obtain ⟨_, _, _, q⟩ := z; cases q
theorem Fun.okG {x qu : Str} {st : Stmt} {f : Addr} {fd : FuncData} {N ps : List Str} {k : Nat} {sp : Sp} (F : Fun K x qu st f fd) (S : FnScope N ps (defScope st)) (len : ∀ vs H Q E, sp vs H Q E → vs.length = ps.length)
    (hbd : ∀ (cv : Value) (A : Around) (ou : List Env) (s : Shared) (H : Hp) (vs : List V) (Q : VK) (E : XK), A.guards = some [] → Room k (A.deeper (envOfC qu (defScope st) s.heap.objs.size f cv)) → sp vs H Q E →
      ∃ t, PSs (cxOf (L2.CX P w) P w K mg base N qu (defScope st) f cv A ou s H E) (defBody st) t ∧ t { nx := fun _ H' => Q .non H', rt := Q } (start N vs) H) : FnG P w K mg base (L2.CX P w) (k + 1) f fd ps sp := by
  obtain ⟨oc, od, kV, dc, pm, an, cv, ct, os, rfl, lk, hc⟩ := F.ex
  exact fnG_of lk hc S len (hbd cv)
end
section
variable {X : Cx} {CX : CXT} {k : Nat} {f : Addr} {fd : FuncData} {ps : List Str} {sp : Sp} {E : L2.St → XK} {x : Str} {p pos : Pos} {e : Expr} {es : List Expr} {t : TA}
theorem run_fnG {pins : List (Addr × Obj)} {sg : L2.St} {H : Hp} {s : Shared} {Q : VK} {us : List Value} {vs : List V} (F : FnG X.prog X.w X.K X.mg X.base CX k f fd ps sp) (gd : X.A.guards = some []) (hr : Room k X.A) (hb : Binds X.K fd ps []) (hx : PassesAt CX X sg (E sg))
    (I : Inv X pins sg H s) (rv : Vals vs us) (h : sp vs H Q (E sg)) : wpAny (model X.prog X.w) X.A (call (.ref f) us) (EP X pins sg Q) X.xe s := by
  have b := hb s us I.kIn (by rw [List.append_nil, ← rv.length]; exact F.len _ _ _ _ h)
  rw [List.append_nil] at b
  refine wpAny_call (codeAny_mono (F.run X.A X.stack s H ⟨us, []⟩ us vs Q (E sg) gd hr I.env0 b rv h) fun o s' z => ?_)
  match o, z with
  | .error e, z => exact hx pins H s e s' I z
  | .ok (.ret u), z => exact I.after z
  | .ok .next, z => exact False.elim z
  | .ok .brk, z => exact False.elim z
  | .ok .cont, z => exact False.elim z
theorem pe_callG (F : FnG X.prog X.w X.K X.mg X.base CX k f fd ps sp) (gd : X.A.guards = some []) (hr : Room k X.A) (hg : Gl X x) (hm : X.mg x = some (.ref f)) (hk : PySem.W.keepIn X.K (.ref f) = true) (hb : Binds X.K fd ps []) (hx : ∀ sg, PassesAt CX X sg (E sg))
    (ha : PA X (e :: es) t) (hd : (x == ("__debug__" : Str)) = false) (he : starEach (e :: es) X.env = (false, eval e X.env) :: starEach es X.env) (hpl : (backTo pos (starEach es X.env)).any (·.1) = false) : PE X (.Call (.Name x p) (e :: es) [] pos) (tCallS sp E t) where
  run := by
    intro pins s sg H Q I h
    refine wpAny_Call_Name_kw (ld_glob I hg hm (PySem.W.callWith_K (h₀ := X.base) I.ok.mod.kin hk (thn (ha.run pos pins s sg H _ I h) ?_) he hpl) hd)
    rintro us s1 ⟨vs, H1, I1, r, q⟩
    exact ⟨I1.kIn, run_fnG F gd hr hb (hx sg) I1 r q⟩
theorem pe_callG0 (F : FnG X.prog X.w X.K X.mg X.base CX k f fd ps sp) (gd : X.A.guards = some []) (hr : Room k X.A) (hg : Gl X x) (hm : X.mg x = some (.ref f)) (hk : PySem.W.keepIn X.K (.ref f) = true) (hb : Binds X.K fd ps []) (hx : ∀ sg, PassesAt CX X sg (E sg))
    (hd : (x == ("__debug__" : Str)) = false) : PE X (.Call (.Name x p) [] [] pos) (tCallS sp E tNil) := by
  refine ⟨fun pins s sg H Q I h => ?_⟩
  refine wpAny_Call_Name_kw (ld_glob I hg hm ?_ hd)
  exact PySem.W.callWith_K0 I.kIn hk (run_fnG (us := []) F gd hr hb (hx sg) I .nil h)
end
/-- the law's call, from its promise where no repr is under way -/
theorem lawG {P : Program} {w : World} {K : PySem.W.Frag} {mg mb : Str → Option Value} {CX : CXT} {k : Nat} {fa a : Addr} {fd : FuncData} {x : Str} {sp : Sp} {s1 : Shared} {vs : List Value} {ns : List Int}
    (kx : K.In s1.heap) (hns : s1.heap.Ns mainGlobals mg) (hb : s1.heap.Ns builtinsNs mb) (hbb : ∀ x : Str, x ≠ "__name__" → mb x = bootBuiltins x) (hlm : s1.heap.NoLimit) (hgn : s1.gens = #[])
    (ha : s1.heap.get? a = some { cls := .type "list", data := .seq vs.toArray }) (hi : IntsAre vs ns) (hl : ns.length ≤ sizeLine) (hr : Room k callerA)
    (F : ∀ base : Heap, K.In base → base.Ns mainGlobals mg → FnG P w K mg base CX k fa fd [x] sp) (hbind : ∀ (s : Shared) (u : Value), BindsTo s fd ⟨[u], []⟩ [(x, u)])
    (hsp : ∀ H : Hp, Only H → SqL K H a (ns.map V.int) → sp [.ref a] H (fun v _ => v = .bl true) fun _ _ _ => False) (hCX : ∀ H e s', CX [] H s1 (fun _ _ _ => False) e s' → False) :
    codeAny (model P w) callerA (.call (.ref fa) ⟨[.ref a], []⟩) (fun r s' => r = .ok (.ret (.bool true)) ∧ OldK s1.heap s'.heap ∧ s'.os = s1.os ∧ AllBare s'.gens) s1 := by
  have rv := vals_ints hi
  have ln := hi.length
  have go : ∀ H : Hp, Only H → SqL K H a (ns.map V.int) → HOk P w H s1.heap → (∀ b, H b ≠ none → b = a) → (H a ≠ none → K.lookup a = none) →
      codeAny (model P w) callerA (.call (.ref fa) ⟨[.ref a], []⟩) (fun r s' => r = .ok (.ret (.bool true)) ∧ OldK s1.heap s'.heap ∧ s'.os = s1.os ∧ AllBare s'.gens) s1 := by
    intro H on hS ok only own
    have isA : ∀ {b u}, H b = some u → b = a := fun {b u} q => only b (by rw [q]; exact fun z => nomatch z)
    have hid : ∀ {b : Addr} {o : Obj}, s1.heap.get? b = some o → H b = none → (hidT s1.heap H).get? b = some o := hidT_get
    have dct : ∀ {b : Addr} {m : Str → Option Value}, s1.heap.Ns b m → (hidT s1.heap H).Ns b m := by
      rintro b m ⟨o, es, ep, e, d, r⟩
      refine ⟨o, es, ep, hid e ?_, d, r⟩
      cases q : H b with
      | none => rfl
      | some u =>
        obtain rfl := isA q
        rw [ha] at e
        cases e
        exact absurd (show Data.seq vs.toArray _ = Data.dict es ep from d) (fun z => nomatch z)
    have kb : K.In (hidT s1.heap H) := by
      intro b o e
      refine hid (kx b o e) ?_
      cases q : H b with
      | none => rfl
      | some u =>
        obtain rfl := isA q
        rw [own (by rw [q]; exact fun z => nomatch z)] at e
        cases e
    have md : Mod K mg (hidT s1.heap H) := ⟨kb, dct hns, ⟨mb, dct hb, hbb⟩, hlm.imp fun mc h => ⟨dct h.1, h.2⟩⟩
    have e0 : Env0 P w K mg (hidT s1.heap H) callerA [] s1 H := ⟨rfl, md, fun b o e => of_hidT e, Nat.le_of_eq (hidT_size _ _), trivial, fun b z => absurd (show b ∈ ([] : List Addr) from z) List.not_mem_nil, ok, .of_eq hgn⟩
    refine codeAny_mono ((F _ kb (dct hns)).run callerA [] s1 H ⟨[.ref a], []⟩ [.ref a] [.ref a] _ _ rfl hr e0 (hbind s1 (.ref a)) (.cons rfl .nil) (hsp H on hS)) ?_
    rintro (e | fl) s' z
    · exact (hCX H e s' z).elim
    · match fl, z with
      | .ret u, z =>
        obtain ⟨v, H', os, br, un, ok', r', q⟩ := z
        obtain rfl : v = .bl true := q
        obtain rfl : u = Value.bool true := r'
        refine ⟨rfl, OldK.of_keep fun b o e => ?_, os, br⟩
        rcases on b with q | ⟨ob, xs, q⟩
        · exact un.keep b o e q (fun z => absurd (show b ∈ ([] : List Addr) from z) List.not_mem_nil) List.not_mem_nil
        · obtain ⟨e1, _⟩ := ok b _ q
          obtain ⟨e2, _⟩ := ok' b _ (un.frzs b ob _ q)
          exact e2.trans (e1.symm.trans e)
      | .next, z => exact False.elim z
      | .brk, z => exact False.elim z
      | .cont, z => exact False.elim z
  cases hk : K.lookup a with
  | some o =>
    obtain rfl : o = _ := Option.some.inj ((kx a o hk).symm.trans ha)
    exact go (fun _ => none) (fun _ => .inl rfl) (.inr ⟨_, vs.toArray, _, hk, rfl, rfl, rfl, by rw [List.size_toArray, ln]; exact hl, by simpa using rv⟩) (fun b u z => nomatch z) (fun b z => absurd rfl z) fun z => absurd rfl z
  | none =>
    let T : Hp := fun b => if b = a then some (.frz { cls := .type "list", data := .seq vs.toArray } (.lst (ns.map V.int))) else none
    have ta : T a = some (.frz { cls := .type "list", data := .seq vs.toArray } (.lst (ns.map V.int))) := if_pos rfl
    have tn : ∀ {b}, b ≠ a → T b = none := fun h => if_neg h
    have tb : ∀ {b}, T b ≠ none → b = a := fun {b} h => Classical.byContradiction fun q => h (tn q)
    refine go T (fun b => ?_) (.inl (.inr ⟨_, ta⟩)) (fun b u z => ?_) (fun b => tb) fun _ => hk
    · by_cases q : b = a
      · rw [q]; exact .inr ⟨_, _, ta⟩
      · exact .inl (tn q)
    · obtain rfl : b = a := tb (by rw [z]; exact fun z => nomatch z)
      rw [ta] at z
      cases z
      exact ⟨ha, by rw [List.length_map]; exact hl, vs, _, rv, ha⟩
theorem walkG {l : PySem.W.OpenLaw} {n k : Nat} {q : Program} {loose : List Str} {XP : (Str → Option Value) → Heap → Prop} {YP : World → Heap → Prop} {d : DefRec} {K : Params → PySem.W.Frag} {CX : World → CXT} {sp : World → Sp} {x : Str}
    (hn : l.most = some n) (hn2 : n ≤ sizeLine) (hdf : d.params.defaults = []) (hr : Room k callerA) (hY : ∀ (w : World) (h : Heap), YP w h → (K w.params).In h)
    (F : ∀ (w : World) (mg : Str → Option Value) (fa : Addr) (h : Heap), (K w.params).In h → h.Ns mainGlobals mg → mg d.name = some (.ref fa) → ∃ fd : FuncData, (∀ (s : Shared) (u : Value), BindsTo s fd ⟨[u], []⟩ [(x, u)]) ∧ ∀ base : Heap, (K w.params).In base → base.Ns mainGlobals mg → FnG l.prog w (K w.params) mg base (CX w) k fa fd [x] (sp w))
    (hsp : ∀ (w : World) (H : Hp) (a : Addr) (ns : List Int), ns.length ≤ n → Only H → SqL (K w.params) H a (ns.map V.int) → sp w [.ref a] H (fun v _ => v = .bl true) fun _ _ _ => False)
    (hCX : ∀ (w : World) (H : Hp) (s : Shared) (e : Value) (s' : Shared), CX w [] H s (fun _ _ _ => False) e s' → False) : PySem.W.WalkO q loose XP YP l.row.toRowW d [] (fun f vs => PySem.call f vs) := by
  refine Att.attach_call hn hdf ?_
  intro w s0 s1 mg mb fa o pm cd dc a vs ns G Y ho hd hcd hmg hob hin hlen hg
  obtain ⟨fd, hb, hF⟩ := F w mg fa _ (hY w _ Y) G.T.g hmg
  exact lawG (hY w _ Y) G.T.g G.T.b G.T.builtins G.T.nolimit hg hob hin (Nat.le_trans hlen hn2) hr hF hb (fun H on hS => hsp w H a ns hlen on hS) fun H e s' => hCX w H s1 e s'
end Ev
end

section
set_option maxHeartbeats 8000000
set_option Elab.async false
set_option linter.all false
set_option maxRecDepth 100000
namespace Ev
open PySem L2
variable [Errs]

/-! ### the built-in operations at values -/
/-- what is wanted of an operation's value: it makes new objects at most -/
def PrimQ (K : PySem.W.Frag) (H J : Hp) (s : Slot) (Q : VK) : Prop :=
  ∀ v H' J' g, RepS K H' J' s v g → (∀ b ∈ g, J' b = none ∧ H b = none) → Step (fun _ => False) H J (fun b => b ∈ g) H' J' → Same J' H' → Q v H'
def rPrim (K : PySem.W.Frag) (o : Op) : List V → Hp → VK → Prop := fun vs H Q => ∃ J ds s, Same J H ∧ Vws K H J vs ds ∧ prim o ds = some s ∧ PrimQ K H J s Q
abbrev rPrim2 (K : PySem.W.Frag) (o : Op) : R2 := fun x y H Q => rPrim K o [x, y] H Q

section
variable {K : PySem.W.Frag} {H J : Hp} {Q : VK}
theorem Vw.int {v : V} {i : Int} (h : Vw K H J v (.int i)) : v = .int i := by
  rcases h with h | ⟨_, _, _, _, e, _⟩ | ⟨_, _, _, _, _, e, _⟩
  · cases h; rfl
  · cases e
  · cases e
theorem Vw.bl {v : V} {i : Bool} (h : Vw K H J v (.bool i)) : v = .bl i := by
  rcases h with h | ⟨_, _, _, _, e, _⟩ | ⟨_, _, _, _, _, e, _⟩
  · cases h; rfl
  · cases e
  · cases e
theorem Vw.str {v : V} {i : Str} (h : Vw K H J v (.str i)) : v = .str i := by
  rcases h with h | ⟨_, _, _, _, e, _⟩ | ⟨_, _, _, _, _, e, _⟩
  · cases h; rfl
  · cases e
  · cases e
theorem Vw.list {v : V} {ds : List PyData} (sm : Same J H) (h : Vw K H J v (.list ds)) : ∃ a xs, v = .ref a ∧ H a = some (.lst xs) ∧ ShAll K J xs ds := by
  rcases h with h | ⟨a, xs, es, e1, e, h1, h2⟩ | ⟨_, _, _, _, _, e, _⟩
  · cases h with
    | lst h g => exact ⟨_, _, rfl, sm _ _ h, g⟩
  · cases e; exact ⟨a, xs, e1, h1, h2⟩
  · cases e
theorem Vw.tuple {v : V} {ds : List PyData} (sm : Same J H) (h : Vw K H J v (.tuple ds)) : ∃ a xs, v = .ref a ∧ J a = some (.tup xs) ∧ H a = some (.tup xs) ∧ ShAll K J xs ds := by
  rcases h with h | ⟨a, xs, es, e1, e, h1, h2⟩ | ⟨_, _, _, _, _, e, _⟩
  · cases h with
    | tup h g => exact ⟨_, _, rfl, h, sm _ _ h, g⟩
  · cases e
  · cases e
theorem Vw.scr {v : V} {ds : List PyData} (sm : Same J H) (h : Vw K H J v (.dict [(.none, .list ds)])) : ∃ a xs, v = .ref a ∧ SqL K H a xs ∧ ShAll K J xs ds := by
  rcases h with h | ⟨a, xs, es, e1, e, h1, h2⟩ | ⟨_, _, _, _, _, e, _⟩
  · generalize e : PyData.dict [(.none, .list ds)] = z at h
    cases h with
    | scr h =>
      injection e with e
      injection e with e _
      injection e with _ e
      injection e with e
      subst e
      exact ⟨_, _, rfl, sm.seq h, shsInts _⟩
    | _ => cases e
  · cases e
  · cases e
/-- a dict -/
theorem Vw.dict {v : V} {t : Bool} {kvs : List (PyData × PyData)} (sm : Same J H) (h : Vw K H J v (.dict ((.bool t, .none) :: kvs))) : ∃ a ho, v = .ref a ∧ H a = some ho ∧ DRep K J ho t kvs := by
  rcases h with h | ⟨a, xs, es, e1, e, h1, h2⟩ | ⟨a, ho, t', kvs', e1, e, h1, h2⟩
  · cases h with
    | dK h1 h2 h3 => exact ⟨_, _, rfl, sm _ _ h1, _, rfl, h2, h3⟩
    | dT h1 h2 h3 => exact ⟨_, _, rfl, sm _ _ h1, _, rfl, h2, h3⟩
  · cases e
  · cases e; exact ⟨a, ho, e1, h1, h2⟩
theorem Vw.dp {v : V} {d : PyData} (sm : Same J H) (c : d.canLay0 = true) (h : Vw K H J v d) : Dp K H v d := by
  rcases h with h | ⟨a, xs, ds, rfl, rfl, h1, h2⟩ | ⟨_, _, _, _, _, rfl, _⟩
  · exact shDp c (shMono sm h)
  · exact .lst (.of h1) (shsDp (by simpa [PyData.canLay0] using c) (shsMono sm h2))
  · simp [PyData.canLay0] at c
theorem Vws.one {vs : List V} {d : PyData} (h : Vws K H J vs [d]) : ∃ v, vs = [v] ∧ Vw K H J v d := by
  cases h with
  | cons a b => cases b; exact ⟨_, rfl, a⟩
theorem Vws.two {vs : List V} {d e : PyData} (h : Vws K H J vs [d, e]) : ∃ v u, vs = [v, u] ∧ Vw K H J v d ∧ Vw K H J u e := by
  cases h with
  | cons a b =>
    obtain ⟨u, rfl, c⟩ := b.one
    exact ⟨_, _, rfl, a, c⟩
theorem Vws.two' {v u : V} {d e : PyData} (h : Vws K H J [v, u] [d, e]) : Vw K H J v d ∧ Vw K H J u e := by
  obtain ⟨_, _, z, a, b⟩ := h.two
  cases z; exact ⟨a, b⟩
theorem Vws.one' {v : V} {d : PyData} (h : Vws K H J [v] [d]) : Vw K H J v d := by
  obtain ⟨_, z, a⟩ := h.one
  cases z; exact a
/-- nothing new -/
theorem PrimQ.val {v : V} {d : PyData} (q : PrimQ K H J (.sh d) Q) (sm : Same J H) (h : Sh K J v d) : Q v H :=
  q v H J [] ⟨rfl, h⟩ (fun b z => nomatch z) ⟨Same.refl _, fun _ _ h _ => h, (fun _ z => nomatch z), fun _ z => .inl z⟩ sm
/-- a new tuple -/
theorem PrimQ.tup {p : Addr} {xs : List V} {ds : List PyData} (q : PrimQ K H J (.sh (.tuple ds)) Q) (sm : Same J H) (hp : H p = none) (h : ShAll K J xs ds) : Q (.ref p) (upd H p (.tup xs)) := by
  have st : Step (fun _ => False) H J (fun _ => False) (upd H p (.tup xs)) (upd J p (.tup xs)) := step_new sm hp
  exact q _ _ (upd J p (.tup xs)) [] ⟨rfl, .tup upd_same (shsMono st.js h)⟩ (fun b z => nomatch z) (st.weak fun _ z => nomatch z) (same_upd2 sm)
/-- a new list -/
theorem PrimQ.lst {p : Addr} {xs : List V} {ds : List PyData} (q : PrimQ K H J (.lst ds) Q) (sm : Same J H) (hp : H p = none) (h : ShAll K J xs ds) : Q (.ref p) (upd H p (.lst xs)) := by
  have st : Step (fun _ => False) H J (fun b => False ∨ b = p) (upd H p (.lst xs)) J := step_own hp
  have jp : J p = none := by
    cases e : J p with
    | none => rfl
    | some o => rw [sm _ _ e] at hp; cases hp
  refine q _ _ J [p] ⟨p, xs, rfl, rfl, upd_same, h⟩ (fun b z => ?_) (st.weak fun b z => .inr (List.mem_singleton.mp z)) (same_upd sm hp)
  cases List.mem_singleton.mp z
  exact ⟨jp, hp⟩
end

theorem shsRep {K : PySem.W.Frag} {J : Hp} {xs : List V} {ds : List PyData} (h : ShAll K J xs ds) : ∀ k : Nat, ShAll K J (List.replicate k xs).flatten (List.replicate k ds).flatten
  | 0 => .nil
  | k + 1 => by
    rw [List.replicate_succ, List.replicate_succ, List.flatten_cons, List.flatten_cons]
    exact shsApp h (shsRep h k)
/-- each value with its data -/
theorem shsEach {K : PySem.W.Frag} {J : Hp} : ∀ {vs : List V} {ds : List PyData}, ShAll K J vs ds → ∀ {us : List Value}, Vals vs us → PySem.W.EachIs (fun u d => ∃ v, RelV v u ∧ Sh K J v d) us ds
  | _, _, .nil, _, .nil => .nil
  | _, _, .cons h g, _, .cons r t => .cons ⟨_, r, h⟩ (shsEach g t)
theorem eachShs {K : PySem.W.Frag} {J : Hp} : ∀ {us : List Value} {ds : List PyData}, PySem.W.EachIs (fun u d => ∃ v, RelV v u ∧ Sh K J v d) us ds → ∃ vs, Vals vs us ∧ ShAll K J vs ds
  | _, _, .nil => ⟨[], .nil, .nil⟩
  | _, _, .cons ⟨v, r, h⟩ t => by
    obtain ⟨vs, a, b⟩ := eachShs t
    exact ⟨v :: vs, .cons r a, .cons h b⟩
/-! ### dicts -/
def keysOf : PyData → Option Key
  | .int i => some (.inl i)
  | .str x => some (.inr x)
  | _ => none
theorem key1_some {d : PyData} (h : key1 d = true) : ∃ k, d = keyDK k := by
  cases d <;> simp [key1] at h
  · exact ⟨.inl _, rfl⟩
  · exact ⟨.inr _, rfl⟩
theorem keys_some : ∀ {ds : List PyData}, ds.all key1 = true → ∃ ks : List Key, ds = ks.map keyDK
  | [], _ => ⟨[], rfl⟩
  | d :: ds, h => by
    simp only [List.all_cons, Bool.and_eq_true] at h
    obtain ⟨k, rfl⟩ := key1_some h.1
    obtain ⟨ks, rfl⟩ := keys_some h.2
    exact ⟨k :: ks, rfl⟩
theorem key1eq_dk (a b : Key) : key1eq (keyDK a) (keyDK b) = decide (a = b) := by
  cases a <;> cases b <;> simp [key1eq, keyDK]
theorem keysEq_dk : ∀ (a b : List Key), keysEq (a.map keyDK) (b.map keyDK) = decide (a = b)
  | [], [] => rfl
  | [], _ :: _ => by simp [keysEq]
  | _ :: _, [] => by simp [keysEq]
  | a :: as, b :: bs => by
    simp only [List.map_cons, keysEq, key1eq_dk, keysEq_dk, List.cons.injEq, Bool.decide_and]
theorem keq_dk (a b : Key) : keq (keyDK a) (keyDK b) = decide (a = b) := by
  cases a <;> cases b <;> simp [keq, key1eq, keyDK]
theorem keq_dt (a b : List Key) : keq (.tuple (a.map keyDK)) (.tuple (b.map keyDK)) = decide (a = b) := by
  simp only [keq, keysEq_dk]
/-- a key that is held as data -/
def KeyV (H : Hp) (v : V) : Bool → PyData → Prop
  | false, d => ∃ k, v = kV k ∧ d = keyDK k
  | true, d => ∃ (b : Addr) (k : List Key), v = .ref b ∧ H b = some (.tup (k.map kV)) ∧ d = .tuple (k.map keyDK)
theorem sh_key {K : PySem.W.Frag} {J : Hp} {v : V} {k : Key} (h : Sh K J v (keyDK k)) : v = kV k := by
  cases k with
  | inl i => cases h; rfl
  | inr x => cases h; rfl
theorem shs_keys {K : PySem.W.Frag} {J : Hp} : ∀ {vs : List V} {ks : List Key}, ShAll K J vs (ks.map keyDK) → vs = ks.map kV
  | [], [], _ => rfl
  | _, [], h => by cases h; rfl
  | [], _ :: _, h => nomatch h
  | v :: vs, k :: ks, h => by
    cases h with
    | cons a b => rw [sh_key a, shs_keys b]; rfl
theorem Vw.key {K : PySem.W.Frag} {H J : Hp} {v : V} {t : Bool} {d : PyData} (sm : Same J H) (h : Vw K H J v d) (hk : isKey t d = true) : KeyV H v t d := by
  cases t with
  | false =>
    have hk : key1 d = true := hk
    obtain ⟨k, rfl⟩ := key1_some hk
    refine ⟨k, ?_, rfl⟩
    rcases h with h | ⟨_, _, _, _, e, _⟩ | ⟨_, _, _, _, _, e, _⟩
    · exact sh_key h
    · cases k <;> cases e
    · cases k <;> cases e
  | true =>
    cases d <;> simp only [isKey, Bool.false_eq_true] at hk
    obtain ⟨ks, rfl⟩ := keys_some hk
    obtain ⟨a, xs, rfl, _, ha, hx⟩ := h.tuple sm
    refine ⟨a, ks, rfl, ?_, rfl⟩
    rw [ha, shs_keys hx]
theorem lookD_dk {K : PySem.W.Frag} {J : Hp} {kf : α → PyData} [DecidableEq α] (hk : ∀ a b, keq (kf a) (kf b) = decide (a = b)) : ∀ {ks : List (α × V)} {kvs : List (PyData × PyData)} (k : α), kvs.map (·.1) = ks.map (fun k => kf k.1) → ShAll K J (ks.map (·.2)) (kvs.map (·.2)) →
    match valV ks k, lookD (kf k) kvs with | some v, some d => Sh K J v d | none, none => True | _, _ => False
  | [], [], k, _, _ => by simp [valV, lookD]
  | [], _ :: _, k, e, _ => by simp at e
  | _ :: _, [], k, e, _ => by simp at e
  | (a, v) :: ks, (b, d) :: kvs, k, e, h => by
    simp only [List.map_cons, List.cons.injEq] at e
    obtain ⟨rfl, e⟩ := e
    cases h with
    | cons h1 h2 =>
      by_cases z : a = k
      · rw [valV_pos z]
        simp only [lookD, hk, z, decide_true, if_true]
        exact h1
      · rw [valV_neg z]
        simp only [lookD, hk, z, decide_false, Bool.false_eq_true, if_false]
        exact lookD_dk hk k e h2
theorem DRep.get {K : PySem.W.Frag} {H J : Hp} {a : Addr} {ho : HO} {t : Bool} {kvs : List (PyData × PyData)} {v : V} {d : PyData} (h : DRep K J ho t kvs) (sm : Same J H) (ha : H a = some ho) (hk : KeyV H v t d) :
    ∃ o, DGet H a v o ∧ match o, lookD d kvs with | some v, some d => Sh K J v d | none, none => True | _, _ => False := by
  cases t with
  | false =>
    obtain ⟨ks, rfl, h1, h2⟩ := h
    obtain ⟨k, rfl, rfl⟩ := hk
    exact ⟨_, DGet.k ha, lookD_dk keq_dk k h1 h2⟩
  | true =>
    obtain ⟨ks, rfl, h1, h2⟩ := h
    obtain ⟨b, k, rfl, hb, rfl⟩ := hk
    exact ⟨_, DGet.t ha hb, lookD_dk (kf := fun (k : List Key) => PyData.tuple (k.map keyDK)) keq_dt k h1 h2⟩
theorem isSome_of {K : PySem.W.Frag} {J : Hp} {o : Option V} {p : Option PyData} (h : match o, p with | some v, some d => Sh K J v d | none, none => True | _, _ => False) : o.isSome = p.isSome := by
  cases o <;> cases p <;> simp at h ⊢
theorem pSorted_some {ds : List PyData} {t : Slot} (h : pSorted ds = some t) : ∃ es, ds = [.list es] ∧ sortB es = true ∧ t = .lst (es.mergeSort leD) := by
  unfold pSorted at h
  split at h
  · split at h
    · cases h; exact ⟨_, rfl, by assumption, rfl⟩
    · cases h
  · cases h
section
variable {X : Cx}
theorem pm_sorted (hu : X.A.units + 64 < cLine) : CallR X (.builtin "sorted") (rPrim X.K .sorted) := by
  intro pins s sg H vs us Q I rv h
  obtain ⟨J, ds, t, sm, vw, hp, q⟩ := h
  obtain ⟨es, rfl, hz, rfl⟩ := pSorted_some hp
  obtain ⟨v, rfl, a⟩ := vw.one
  obtain ⟨l, xs, rfl, ha, ga⟩ := a.list sm
  cases rv with
  | cons r1 r2 =>
    cases r2
    cases r1
    obtain ⟨hl, its, n, rits, eo⟩ := (show ObjOk X.prog X.w H s.heap l (.lst xs) from I.hok l _ ha)
    simp only [sortB, alikeB, Bool.and_eq_true, Bool.or_eq_true, List.all_eq_true] at hz
    obtain ⟨⟨h1, h2⟩, h3⟩ := hz
    have hal : PySem.W.AllAlike es := fun d hd d' hd' => h1 d hd d' hd'
    have hk : PySem.W.Sortable es := by
      rcases h2 with h2 | h2
      · refine .inl fun d hd => ?_
        have := h2 d hd
        unfold neTup at this
        split at this
        · exact ⟨_, _, rfl⟩
        · cases this
      · refine .inr fun d hd => ?_
        have := h2 d hd
        unfold noTup at this
        refine ⟨fun z => ?_, fun xs z => ?_⟩
        · rw [z] at this; cases this
        · rw [z] at this; cases this
    have e1 := shsEach ga rits
    have er : PySem.W.EachIs (fun v b => ∃ as, Reads s.heap v (id b) as) its es := by
      have e2 := PySem.W.each_mem e1
      exact e2.mono fun u d ⟨⟨v, r, hs⟩, hd⟩ => Dp.reads I d v u (shDp (h3 d hd).1 (shMono sm hs)) r
    refine PySem.W.sorted_data (enc := id) (bs := es) ⟨_, eo, rfl, n, rfl⟩ e1 er (by rw [List.map_id]; exact hal) (by rw [List.map_id]; exact hk) (by rw [← shsLen ga]; exact hl) (fun b hb => ?_) fun out ho eout => ?_
    · have := (h3 b hb).2
      have := of_decide_eq_true this
      show X.A.units + 2 + b.depth < cLine
      omega
    · obtain ⟨ws, r3, s3⟩ := eachShs eout
      obtain ⟨c, hc⟩ := PyProof.Rows.sortedAll_at s.heap its out.toArray
      have hfr : H (s.heap.objs.size + 1) = none := I.hok.fresh (Nat.le_succ _)
      have hlen : ws.length ≤ sizeLine := by rw [r3.length, ho, ← shsLen ga]; exact hl
      refine ⟨.ref _, upd H (s.heap.objs.size + 1) (.lst ws), I.laid (t' := s.toks) (fun _ _ => PyProof.Rows.sortedAll_old) (Nat.le_succ _) ⟨hlen, out, _, r3, hc⟩, rfl, q.lst sm hfr ?_⟩
      exact s3
def tyN : PyData → String
  | .none => "NoneType" | .bool _ => "bool" | .int _ => "int" | .str _ => "str" | .list _ => "list" | .tuple _ => "tuple" | .dict _ => "dict"
theorem tyD_kit {d : PyData} {t : String} {b : Bool} (h : tyD d t = some b) : kitB (tyN d) t = some b := by
  unfold tyD at h
  split at h <;> (repeat' (split at h)) <;> (try (cases h; done)) <;> (rename_i q; cases h) <;> simp only [tyN] <;> first | (rcases q with rfl | rfl | rfl | rfl | rfl | rfl <;> decide +kernel) | (rcases q with rfl | rfl | rfl | rfl | rfl <;> decide +kernel) | (rcases q with rfl | rfl | rfl | rfl <;> decide +kernel) | (rcases q with rfl | rfl | rfl <;> decide +kernel) | (rcases q with rfl | rfl <;> decide +kernel) | (subst q; decide +kernel)
theorem Vw.ty {K : PySem.W.Frag} {H J : Hp} {v : V} {d : PyData} {t : String} {b : Bool} (sm : Same J H) (hd : tyD d t = some b) (h : Vw K H J v d) : TyX K H v (.type (tyN d)) := by
  rcases h with h | ⟨a, xs, ds, rfl, rfl, h1, h2⟩ | ⟨a, ho, t', kvs, rfl, rfl, h1, h2⟩
  · cases h with
    | non => exact .base .non
    | bl b => exact .base (.bl b)
    | int i => exact .base (.int i)
    | str x => exact .base (.str x)
    | lst h g => exact .base (.lst (sm _ _ h))
    | tup h g => exact .base (.tup (sm _ _ h))
    | scr h => cases hd
    | dK h _ _ => exact .base (.dK (sm _ _ h))
    | dT h _ _ => exact .base (.dT (sm _ _ h))
    | exc0 _ _ => cases hd
    | exc1 _ _ _ _ => cases hd
  · exact .base (.lst h1)
  · cases t' with
    | false => obtain ⟨ks, rfl, _⟩ := h2; exact .base (.dK h1)
    | true => obtain ⟨ks, rfl, _⟩ := h2; exact .base (.dT h1)
def rIsiP (K : PySem.W.Frag) (t : String) : List V → Hp → VK → Prop := fun vs H Q => ∃ x, vs = [x, .ty t] ∧ rPrim K (.isi t) [x] H Q
theorem pm_isi {t : String} : CallR X (.builtin "isinstance") (rIsiP X.K t) := by
  intro pins s sg H vs us Q I rv h
  obtain ⟨x, rfl, J, ds, tt, sm, vw, hp, q⟩ := h
  have hp : pIsi t ds = some tt := hp
  unfold pIsi at hp
  split at hp
  · obtain ⟨b, hb, rfl⟩ := Option.map_eq_some_iff.mp hp
    exact call_isi pins s sg H _ us Q I rv ⟨x, .ty t, _, _, b, rfl, .ty t, vw.one'.ty sm hb, kit_ty (tyD_kit hb), q.val sm (.bl b)⟩
  · cases hp
theorem pm_add : OpR X (binaryOp .Add) (rPrim2 X.K .add) := by
  intro pins s sg H x y v u Q I rx ry h
  obtain ⟨J, ds, t, sm, vw, hp, q⟩ := h
  have hp : pAdd ds = some t := hp
  unfold pAdd at hp
  split at hp
  · cases hp
    obtain ⟨a, b⟩ := vw.two'
    exact op_add pins s sg H x y v u Q I rx ry ⟨_, _, a.int, b.int, q.val sm (.int _)⟩
  · obtain ⟨a, b⟩ := vw.two'
    obtain ⟨l, xs, rfl, ha, ga⟩ := a.list sm
    obtain ⟨m, ys, rfl, hb, gb⟩ := b.list sm
    split at hp
    · rename_i hz
      cases hp
      refine op_cat pins s sg H _ _ v u Q I rx ry ⟨l, m, xs, ys, rfl, rfl, ha, hb, ?_, fun p hp => q.lst sm hp (shsApp ga gb)⟩
      rw [shsLen ga, shsLen gb]
      exact of_decide_eq_true hz
    · cases hp
  · obtain ⟨a, b⟩ := vw.two'
    obtain ⟨l, xs, rfl, ja, ha, ga⟩ := a.tuple sm
    obtain ⟨m, ys, rfl, jb, hb, gb⟩ := b.tuple sm
    split at hp
    · rename_i a' b' hz
      cases hp
      refine op_catA pins s sg H _ _ v u Q I rx ry ⟨l, m, xs, ys, rfl, rfl, .of ha, .of hb, ?_, fun e => ?_, fun _ e => ?_, fun _ _ p hp => q.tup sm hp (shsApp ga gb)⟩
      · rw [shsLen ga, shsLen gb]
        exact of_decide_eq_true hz
      · subst e
        cases ga
        exact q.val sm (.tup jb gb)
      · subst e
        cases gb
        rw [List.append_nil] at q
        exact q.val sm (.tup ja ga)
    · cases hp
  · cases hp
theorem pm_sub : OpR X (binaryOp .Sub) (rPrim2 X.K .sub) := by
  intro pins s sg H x y v u Q I rx ry h
  obtain ⟨J, ds, t, sm, vw, hp, q⟩ := h
  have hp : pSub ds = some t := hp
  unfold pSub at hp
  split at hp
  · cases hp
    obtain ⟨a, b⟩ := vw.two'
    exact op_sub pins s sg H x y v u Q I rx ry ⟨_, _, a.int, b.int, q.val sm (.int _)⟩
  · cases hp
theorem pm_mul : OpR X (binaryOp .Mult) (rPrim2 X.K .mul) := by
  intro pins s sg H x y v u Q I rx ry h
  obtain ⟨J, ds, t, sm, vw, hp, q⟩ := h
  have hp : pMul ds = some t := hp
  unfold pMul at hp
  split at hp
  · obtain ⟨a, b⟩ := vw.two'
    obtain ⟨l, xs, rfl, ha, ga⟩ := a.list sm
    split at hp
    · rename_i hz
      cases hp
      simp only [Bool.and_eq_true, decide_eq_true_eq] at hz
      obtain ⟨⟨hz0, hz1⟩, hz2⟩ := hz
      exact op_rep pins s sg H _ _ v u Q I rx ry ⟨l, _, xs, rfl, b.int, ha, by omega, by omega, by rw [shsLen ga, sizeLine_eq]; exact of_decide_eq_true hz2, fun p hp => q.lst sm hp (shsRep ga _)⟩
    · cases hp
  · obtain ⟨a, b⟩ := vw.two'
    split at hp
    · rename_i hz
      cases hp
      refine op_mul pins s sg H x y v u Q I rx ry ⟨_, _, a.int, b.int, ?_, q.val sm (.int _)⟩
      simp only [Bool.or_eq_true, decide_eq_true_eq] at hz
      unfold CMul
      omega
    · cases hp
  · cases hp
theorem pm_fdiv : OpR X (binaryOp .FloorDiv) (rPrim2 X.K .fdiv) := by
  intro pins s sg H x y v u Q I rx ry h
  obtain ⟨J, ds, t, sm, vw, hp, q⟩ := h
  have hp : pFdiv ds = some t := hp
  unfold pFdiv at hp
  split at hp
  · obtain ⟨a, b⟩ := vw.two'
    split at hp
    · rename_i hz
      cases hp
      refine op_fdivW pins s sg H x y v u Q I rx ry ⟨_, _, a.int, b.int, ?_, q.val sm (.int _)⟩
      simp only [Bool.and_eq_true, decide_eq_true_eq] at hz
      exact wide_div (b := 256) hz.1 (by omega) (by decide) (by decide)
    · cases hp
  · cases hp
theorem pm_mod : OpR X (binaryOp .Mod) (rPrim2 X.K .mod) := by
  intro pins s sg H x y v u Q I rx ry h
  obtain ⟨J, ds, t, sm, vw, hp, q⟩ := h
  have hp : pMod ds = some t := hp
  unfold pMod at hp
  split at hp
  · obtain ⟨a, b⟩ := vw.two'
    split at hp
    · rename_i hz
      cases hp
      exact op_mod pins s sg H x y v u Q I rx ry ⟨_, _, a.int, b.int, of_decide_eq_true hz, q.val sm (.int _)⟩
    · cases hp
  · cases hp
theorem pm_pow : OpR X (binaryOp .Pow) (rPrim2 X.K .pow) := by
  intro pins s sg H x y v u Q I rx ry h
  obtain ⟨J, ds, t, sm, vw, hp, q⟩ := h
  have hp : pPow ds = some t := hp
  unfold pPow at hp
  split at hp
  · obtain ⟨a, b⟩ := vw.two'
    split at hp
    · rename_i hz
      cases hp
      refine op_pow pins s sg H x y v u Q I rx ry ⟨_, _, a.int, b.int, ?_, q.val sm (.int _)⟩
      simp only [Bool.and_eq_true, decide_eq_true_eq] at hz
      exact ⟨hz.1.1, hz.1.2, hz.2⟩
    · cases hp
  · cases hp
theorem pm_neg : UnR X (unaryOp .USub) (fun x H Q => rPrim X.K .neg [x] H Q) := by
  intro pins s sg H x v Q I rx h
  obtain ⟨J, ds, t, sm, vw, hp, q⟩ := h
  have hp : pNeg ds = some t := hp
  unfold pNeg at hp
  split at hp
  · cases hp
    exact un_neg pins s sg H x v Q I rx ⟨_, vw.one'.int, q.val sm (.int _)⟩
  · cases hp
theorem shp_lay {d : PyData} (h : shp d = true) : d.canLay0 = true := by
  unfold shp SeqAt.shaped at h
  simp only [Bool.and_eq_true] at h
  exact h.1
theorem shp_depth {d : PyData} (h : shp d = true) : d.depth ≤ 64 := by
  unfold shp SeqAt.shaped at h
  simp only [Bool.and_eq_true, decide_eq_true_eq] at h
  exact h.2
theorem pm_eq (hu : X.A.units + 64 < cLine) : OpR X (compareOp .Eq) (rPrim2 X.K .eq) := by
  intro pins s sg H x y v u Q I rx ry h
  obtain ⟨J, ds, t, sm, vw, hp, q⟩ := h
  have hp : pEq ds = some t := hp
  unfold pEq at hp
  split at hp
  · cases hp
    obtain ⟨a, b⟩ := vw.two'
    rw [a.str] at rx
    rw [b.str] at ry
    refine op_eq pins s sg H _ _ v u Q I rx ry ⟨rfl, ?_⟩
    rw [dec_str]
    exact q.val sm (.bl _)
  · obtain ⟨a, b⟩ := vw.two'
    split at hp
    · rename_i hz
      cases hp
      simp only [Bool.and_eq_true] at hz
      exact op_eqD hu pins s sg H x y v u Q I rx ry ⟨_, _, a.dp sm (shp_lay hz.1), b.dp sm (shp_lay hz.2), hz.1, hz.2, q.val sm (.bl _)⟩
    · cases hp
  · cases hp
theorem pm_ne (hu : X.A.units + 64 < cLine) : OpR X (compareOp .NotEq) (rPrim2 X.K .ne) := by
  intro pins s sg H x y v u Q I rx ry h
  obtain ⟨J, ds, t, sm, vw, hp, q⟩ := h
  have hp : pNe ds = some t := hp
  unfold pNe at hp
  split at hp
  · cases hp
    obtain ⟨a, b⟩ := vw.two'
    rw [a.str] at rx
    rw [b.str] at ry
    refine op_ne pins s sg H _ _ v u Q I rx ry ⟨rfl, ?_⟩
    rw [dec_str]
    exact q.val sm (.bl _)
  · obtain ⟨a, b⟩ := vw.two'
    split at hp
    · rename_i hz
      cases hp
      simp only [Bool.and_eq_true] at hz
      exact op_neD hu pins s sg H x y v u Q I rx ry ⟨_, _, a.dp sm (shp_lay hz.1), b.dp sm (shp_lay hz.2), hz.1, hz.2, q.val sm (.bl _)⟩
    · cases hp
  · cases hp
theorem pm_lt (hu : X.A.units + 65 < cLine) : OpR X (compareOp .Lt) (rPrim2 X.K .lt) := by
  intro pins s sg H x y v u Q I rx ry h
  obtain ⟨J, ds, t, sm, vw, hp, q⟩ := h
  have hp : pLt ds = some t := hp
  unfold pLt at hp
  split at hp
  · cases hp
    obtain ⟨a, b⟩ := vw.two'
    exact op_lt pins s sg H x y v u Q I rx ry ⟨_, _, a.int, b.int, q.val sm (.bl _)⟩
  · split at hp
    · rename_i hz
      cases hp
      obtain ⟨a, b⟩ := vw.two'
      simp only [cmpOk, Bool.and_eq_true] at hz
      obtain ⟨⟨z1, z2⟩, z3⟩ := hz
      obtain ⟨as, r1⟩ := Dp.reads I _ x v (a.dp sm (shp_lay z1)) rx
      obtain ⟨bs, r2⟩ := Dp.reads I _ y u (b.dp sm (shp_lay z2)) ry
      have dz := shp_depth z1
      exact PySem.W.lt_data r1 r2 z3 (fun e => nomatch e) (by omega) ⟨.bl _, H, I, rfl, q.val sm (.bl _)⟩
    · cases hp
  · cases hp
theorem pm_le (hu : X.A.units + 65 < cLine) : OpR X (compareOp .LtE) (rPrim2 X.K .le) := by
  intro pins s sg H x y v u Q I rx ry h
  obtain ⟨J, ds, t, sm, vw, hp, q⟩ := h
  have hp : pLe ds = some t := hp
  unfold pLe at hp
  split at hp
  · cases hp
    obtain ⟨a, b⟩ := vw.two'
    exact op_le pins s sg H x y v u Q I rx ry ⟨_, _, a.int, b.int, q.val sm (.bl _)⟩
  · split at hp
    · rename_i hz
      cases hp
      obtain ⟨a, b⟩ := vw.two'
      simp only [cmpOk, Bool.and_eq_true] at hz
      obtain ⟨⟨z1, z2⟩, z3⟩ := hz
      obtain ⟨as, r1⟩ := Dp.reads I _ x v (a.dp sm (shp_lay z1)) rx
      obtain ⟨bs, r2⟩ := Dp.reads I _ y u (b.dp sm (shp_lay z2)) ry
      have dz := shp_depth z1
      exact PySem.W.le_data r1 r2 z3 (fun e => nomatch e) (by omega) ⟨.bl _, H, I, rfl, q.val sm (.bl _)⟩
    · cases hp
  · cases hp
theorem pm_gt (hu : X.A.units + 65 < cLine) : OpR X (compareOp .Gt) (rPrim2 X.K .gt) := by
  intro pins s sg H x y v u Q I rx ry h
  obtain ⟨J, ds, t, sm, vw, hp, q⟩ := h
  have hp : pGt ds = some t := hp
  unfold pGt at hp
  split at hp
  · cases hp
    obtain ⟨a, b⟩ := vw.two'
    exact op_gt pins s sg H x y v u Q I rx ry ⟨_, _, a.int, b.int, q.val sm (.bl _)⟩
  · split at hp
    · rename_i hz
      cases hp
      obtain ⟨a, b⟩ := vw.two'
      simp only [cmpOk, Bool.and_eq_true] at hz
      obtain ⟨⟨z1, z2⟩, z3⟩ := hz
      obtain ⟨as, r1⟩ := Dp.reads I _ x v (a.dp sm (shp_lay z1)) rx
      obtain ⟨bs, r2⟩ := Dp.reads I _ y u (b.dp sm (shp_lay z2)) ry
      have dz := shp_depth z1
      exact PySem.W.gt_data r1 r2 z3 (fun e => nomatch e) (by omega) ⟨.bl _, H, I, rfl, q.val sm (.bl _)⟩
    · cases hp
  · cases hp
theorem pm_ge (hu : X.A.units + 65 < cLine) : OpR X (compareOp .GtE) (rPrim2 X.K .ge) := by
  intro pins s sg H x y v u Q I rx ry h
  obtain ⟨J, ds, t, sm, vw, hp, q⟩ := h
  have hp : pGe ds = some t := hp
  unfold pGe at hp
  split at hp
  · cases hp
    obtain ⟨a, b⟩ := vw.two'
    exact op_ge pins s sg H x y v u Q I rx ry ⟨_, _, a.int, b.int, q.val sm (.bl _)⟩
  · split at hp
    · rename_i hz
      cases hp
      obtain ⟨a, b⟩ := vw.two'
      simp only [cmpOk, Bool.and_eq_true] at hz
      obtain ⟨⟨z1, z2⟩, z3⟩ := hz
      obtain ⟨as, r1⟩ := Dp.reads I _ x v (a.dp sm (shp_lay z1)) rx
      obtain ⟨bs, r2⟩ := Dp.reads I _ y u (b.dp sm (shp_lay z2)) ry
      have dz := shp_depth z1
      exact PySem.W.ge_data r1 r2 z3 (fun e => nomatch e) (by omega) ⟨.bl _, H, I, rfl, q.val sm (.bl _)⟩
    · cases hp
  · cases hp
open PySem.Spec PyProof.Rows in
theorem ix_dget (hu : X.A.units + 1 < cLine) : IxR X (fun x y H Q => ∃ a v, x = .ref a ∧ DGet H a y (some v) ∧ Q v H) := by
  intro value slice pins s sg H x y o i Q I rx ry h hs
  obtain ⟨a, v, rfl, g, q⟩ := h
  obtain rfl : o = Value.ref a := rx
  have hT := dict_typeIs I g
  have h2 : wpAny (model X.prog X.w) X.A (getItem (.ref a) i) (EP X pins sg Q) X.xe s := d_getItem hu I g ry fun w' s3 I3 rw' => ⟨v, H, I3, rw', q⟩
  unfold subscriptTail
  refine wpAny_bind ?_
  rw [getitemInPython_of_ne hT.not_modules]
  refine wpAny_bind (wpAny_specialOf hT PySem.F.slot_dict_getitem.lookup ?_)
  have fin : wpAny (model X.prog X.w) X.A (subscripted slice false (.ref a) i) (fun r s3 => wpAny (model X.prog X.w) X.A (letTemporaryGo value (.ref a) r >>= fun _ => pure r) (EP X pins sg Q) X.xe s3) X.xe s := by
    rw [hs]
    exact wpAny_operating (wpAny_mono h2 (fun r s3 h3 => wpAny_bind (wpAny_letTemporaryGo (wpAny_pure h3))) fun _ _ x => x)
  first
    | exact wpAny_pure (wpAny_bind fin)
    | exact wpAny_bind (wpAny_pure (wpAny_bind fin))
    | exact wpAny_bind fin
theorem pm_item (hu : X.A.units + 1 < cLine) : IxR X (rPrim2 X.K .item) := by
  intro value slice pins s sg H x y v u Q I rx ry h hs
  obtain ⟨J, ds, t, sm, vw, hp, q⟩ := h
  have hp : pItem ds = some t := hp
  unfold pItem at hp
  split at hp
  · obtain ⟨a, b⟩ := vw.two'
    obtain ⟨l, xs, rfl, ha, ga⟩ := a.list sm
    obtain ⟨d, hd, rfl⟩ := Option.map_eq_some_iff.mp hp
    obtain ⟨w, hw, gw⟩ := shsAt ga hd
    exact ix_list value slice pins s sg H _ _ v u Q I rx ry ⟨l, xs, _, w, rfl, b.int, .of ha, hw, q.val sm gw⟩ hs
  · obtain ⟨a, b⟩ := vw.two'
    obtain ⟨l, xs, rfl, _, ha, ga⟩ := a.tuple sm
    obtain ⟨d, hd, rfl⟩ := Option.map_eq_some_iff.mp hp
    obtain ⟨w, hw, gw⟩ := shsAt ga hd
    exact ix_tup value slice pins s sg H _ _ v u Q I rx ry ⟨l, xs, _, w, rfl, b.int, .of ha, hw, q.val sm gw⟩ hs
  · obtain ⟨a, b⟩ := vw.two'
    obtain ⟨l, xs, rfl, ha, ga⟩ := a.scr sm
    obtain ⟨d, hd, rfl⟩ := Option.map_eq_some_iff.mp hp
    obtain ⟨w, hw, gw⟩ := shsAt ga hd
    exact ix_list value slice pins s sg H _ _ v u Q I rx ry ⟨l, xs, _, w, rfl, b.int, ha, hw, q.val sm gw⟩ hs
  · obtain ⟨a, b⟩ := vw.two'
    split at hp
    · rename_i hk
      obtain ⟨d, hd, rfl⟩ := Option.map_eq_some_iff.mp hp
      obtain ⟨l, ho, rfl, ha, ga⟩ := a.dict sm
      obtain ⟨o, hg, ho2⟩ := ga.get sm ha (b.key sm hk)
      rw [hd] at ho2
      cases o with
      | none => exact ho2.elim
      | some w => exact ix_dget hu value slice pins s sg H _ _ v u Q I rx ry ⟨l, w, rfl, hg, q.val sm ho2⟩ hs
    · cases hp
  · cases hp
theorem shsDrop {K : PySem.W.Frag} {J : Hp} : ∀ {vs : List V} {ds : List PyData} (j : Nat), ShAll K J vs ds → ShAll K J (vs.drop j) (ds.drop j)
  | _, _, 0, h => h
  | _, _, j + 1, .nil => .nil
  | _, _, j + 1, .cons _ t => shsDrop j t
theorem shsTake {K : PySem.W.Frag} {J : Hp} : ∀ {vs : List V} {ds : List PyData} (j : Nat), ShAll K J vs ds → ShAll K J (vs.take j) (ds.take j)
  | _, _, 0, _ => .nil
  | _, _, j + 1, .nil => .nil
  | _, _, j + 1, .cons h t => .cons h (shsTake j t)
theorem shsCut {K : PySem.W.Frag} {J : Hp} {vs : List V} {ds : List PyData} (h : ShAll K J vs ds) (lo hi : Option Int) : ShAll K J (cutV vs lo hi) (cutD ds lo hi) := by
  unfold cutV cutD
  rw [shsLen h]
  exact shsTake _ (shsDrop _ h)
theorem shsRev {K : PySem.W.Frag} {J : Hp} : ∀ {vs : List V} {ds : List PyData}, ShAll K J vs ds → ShAll K J vs.reverse ds.reverse
  | _, _, .nil => .nil
  | _, _, .cons h t => by
    rw [List.reverse_cons, List.reverse_cons]
    exact shsApp (shsRev t) (.cons h .nil)
/-- what a slice is of a value -/
def rCut (K : PySem.W.Frag) : V → Option Int → Option Int → Hp → VK → Prop := fun x lo hi H Q => ∃ J d t, Same J H ∧ Vw K H J x d ∧ cutP d lo hi = some t ∧ PrimQ K H J t Q
theorem pm_cut : SlR X (rCut X.K) := by
  intro pins s sg H x v vl vu lo hi sl Q I rx hs pl pu h
  obtain ⟨J, d, t, sm, a, hp, q⟩ := h
  unfold cutP at hp
  split at hp
  · cases hp
    obtain ⟨l, xs, rfl, ha, ga⟩ := a.list sm
    exact sl_list pins s sg H _ v vl vu lo hi sl Q I rx hs pl pu ⟨l, xs, rfl, .of ha, fun p hp => q.lst sm hp (shsCut ga lo hi)⟩
  · rename_i ds
    cases hp
    obtain ⟨l, xs, rfl, ja, ha, ga⟩ := a.tuple sm
    refine sl_tupA pins s sg H _ v vl vu lo hi sl Q I rx hs pl pu ⟨l, xs, rfl, .of ha, fun e => ?_, fun _ p hp => q.tup sm hp (shsCut ga lo hi)⟩
    refine q.val sm (.tup ja ?_)
    have := shsCut ga lo hi
    have e2 : cutV xs lo hi = xs := by
      unfold cutV
      rw [e.1, e.2]
      simp
    rw [e2] at this
    exact this
  · split at hp
    · rename_i z hz
      cases hp
      obtain rfl := a.str
      exact sl_str pins s sg H _ v vl vu lo hi sl Q I rx hs pl pu ⟨z, rfl, by rw [sizeLine_eq]; exact of_decide_eq_true hz, q.val sm (.str _)⟩
    · cases hp
  · cases hp
theorem pSl_some {bl bh : Bool} {ds : List PyData} {t : Slot} (h : pSl bl bh ds = some t) : (∃ d i, ds = [d, .int i] ∧ bl = true ∧ bh = false ∧ cutP d (some i) none = some t) ∨ (∃ d i, ds = [d, .int i] ∧ bl = false ∧ bh = true ∧ cutP d none (some i) = some t) ∨
    (∃ d i j, ds = [d, .int i, .int j] ∧ bl = true ∧ bh = true ∧ cutP d (some i) (some j) = some t) := by
  unfold pSl at h
  split at h
  · cases bl <;> cases bh <;> simp at h
    · exact .inr (.inl ⟨_, _, rfl, rfl, rfl, h⟩)
    · exact .inl ⟨_, _, rfl, rfl, rfl, h⟩
  · cases bl <;> cases bh <;> simp at h
    exact .inr (.inr ⟨_, _, _, rfl, rfl, rfl, h⟩)
  · cases h
theorem sl_lo {K : PySem.W.Frag} {H : Hp} {Q : VK} {v u : V} (h : rPrim K (.sl true false) [v, u] H Q) : ∃ i, u = .int i ∧ rCut K v (some i) none H Q := by
  obtain ⟨J, ds, t, sm, vw, hp, q⟩ := h
  rcases pSl_some (show pSl true false ds = some t from hp) with ⟨d, i, rfl, _, _, hc⟩ | ⟨_, _, _, e, _⟩ | ⟨_, _, _, _, _, e, _⟩
  · obtain ⟨a, b⟩ := vw.two'
    exact ⟨i, b.int, J, d, t, sm, a, hc, q⟩
  · cases e
  · cases e
theorem sl_hi {K : PySem.W.Frag} {H : Hp} {Q : VK} {v u : V} (h : rPrim K (.sl false true) [v, u] H Q) : ∃ i, u = .int i ∧ rCut K v none (some i) H Q := by
  obtain ⟨J, ds, t, sm, vw, hp, q⟩ := h
  rcases pSl_some (show pSl false true ds = some t from hp) with ⟨_, _, _, e, _⟩ | ⟨d, i, rfl, _, _, hc⟩ | ⟨_, _, _, _, e, _⟩
  · cases e
  · obtain ⟨a, b⟩ := vw.two'
    exact ⟨i, b.int, J, d, t, sm, a, hc, q⟩
  · cases e
theorem sl_lohi {K : PySem.W.Frag} {H : Hp} {Q : VK} {v u z : V} (h : rPrim K (.sl true true) [v, u, z] H Q) : ∃ i, u = .int i ∧ ∃ j, z = .int j ∧ rCut K v (some i) (some j) H Q := by
  obtain ⟨J, ds, t, sm, vw, hp, q⟩ := h
  rcases pSl_some (show pSl true true ds = some t from hp) with ⟨_, _, _, _, e, _⟩ | ⟨_, _, _, e, _⟩ | ⟨d, i, j, rfl, _, _, hc⟩
  · cases e
  · cases e
  · cases vw with
    | cons a b =>
      obtain ⟨b1, b2⟩ := b.two'
      exact ⟨i, b1.int, j, b2.int, J, d, t, sm, a, hc, q⟩
/-- an empty dict -/
theorem Vw.dct0 {pins : List (Addr × Obj)} {sg : St} {H J : Hp} {s : Shared} {v : V} {t : Bool} (I : Inv X pins sg H s) (sm : Same J H) (h : Vw X.K H J v (.dict [(.bool t, .none)])) : ∃ l o es n, v = .ref l ∧ s.heap.get? l = some o ∧ o.cls = .type "dict" ∧ o.data = .dict es n ∧ es = #[] ∧ (l == sysModules) = false := by
  obtain ⟨l, ho, rfl, ha, hr⟩ := h.dict sm
  cases t with
  | false =>
    obtain ⟨ks, rfl, hk, _⟩ := hr
    obtain ⟨_, ns, vs, kv, ob, es, ep, e, c, c2, _, pr, _⟩ := (show ObjOk X.prog X.w H s.heap l (.dK ks) from I.hok l _ ha)
    have hks : ks = [] := by simpa using hk.symm
    subst hks
    have : vs = [] := by cases kv; rfl
    subst this
    have : es.toList = [] := by generalize es.toList = z at pr; cases pr; rfl
    exact ⟨l, ob, es, ep, rfl, e, c.1, c2, by simpa using this, ns⟩
  | true =>
    obtain ⟨ks, rfl, hk, _⟩ := hr
    obtain ⟨_, ns, vs, kv, ob, es, ep, e, c, c2, et, _⟩ := (show ObjOk X.prog X.w H s.heap l (.dT ks) from I.hok l _ ha)
    have hks : ks = [] := by simpa using hk.symm
    subst hks
    have : vs = [] := by cases kv; rfl
    subst this
    exact ⟨l, ob, es, ep, rfl, e, c.1, c2, by simpa using et, ns⟩
theorem rev_l {K : PySem.W.Frag} {H : Hp} {Q : VK} {v : V} (h : rPrim K .rev [v] H Q) : ∃ a xs, v = .ref a ∧ ((SqL K H a xs ∧ ∀ p, H p = none → Q (.ref p) (upd H p (.lst xs.reverse))) ∨ (SqT K H a xs ∧ ∀ p, H p = none → Q (.ref p) (upd H p (.tup xs.reverse)))) := by
  obtain ⟨J, ds, t, sm, vw, hp, q⟩ := h
  have hp : pRev ds = some t := hp
  unfold pRev at hp
  split at hp
  · cases hp
    obtain ⟨l, xs, rfl, ha, ga⟩ := vw.one'.list sm
    exact ⟨l, xs, rfl, .inl ⟨.of ha, fun p hp => q.lst sm hp (shsRev ga)⟩⟩
  · cases hp
    obtain ⟨l, xs, rfl, ja, ha, ga⟩ := vw.one'.tuple sm
    exact ⟨l, xs, rfl, .inr ⟨.of ha, fun p hp => q.tup sm hp (shsRev ga)⟩⟩
  · cases hp
theorem pm_str : CallR X (.type "str") (rPrim X.K .str_) := by
  intro pins s sg H vs us Q I rv h
  obtain ⟨J, ds, t, sm, vw, hp, q⟩ := h
  have hp : pStr ds = some t := hp
  unfold pStr at hp
  split at hp
  · split at hp
    · rename_i hz
      cases hp
      obtain ⟨v, rfl, a⟩ := vw.one
      rw [a.int] at rv
      exact call_str_int pins s sg H _ us Q I rv ⟨_, rfl, of_decide_eq_true hz, q.val sm (.str _)⟩
    · cases hp
  · cases hp
    obtain ⟨v, rfl, a⟩ := vw.one
    rw [a.str] at rv
    exact SkE.call_str_str pins s sg H _ us Q I rv ⟨_, rfl, q.val sm (.str _)⟩
  · cases hp
theorem pm_repr (gd : X.A.guards = some []) (hu : X.A.units + 66 < cLine) : CallR X (.builtin "repr") (rPrim X.K .repr) := by
  intro pins s sg H vs us Q I rv h
  obtain ⟨J, ds, t, sm, vw, hp, q⟩ := h
  replace hp : pRepr ds = some t := hp
  unfold pRepr at hp
  split at hp
  · rename_i d
    obtain ⟨v, rfl, a⟩ := vw.one
    cases rv with
    | cons r0 r1 =>
      rename_i u ur
      cases r1
      split at hp
      · rename_i hz
        cases hp
        simp only [Bool.and_eq_true] at hz
        obtain ⟨⟨h1, h2⟩, h3⟩ := hz
        have hl := shp_lay h1
        have hd := shp_depth h1
        have hsz : d.shown.length ≤ sizeLine := by rw [sizeLine_eq]; exact of_decide_eq_true h3
        obtain ⟨as, rd⟩ := Dp.reads I d v u (a.dp sm hl) r0
        have fin : ∀ (h' : Heap) (tk : Tok) (tk2 : Nat), (∀ b o, s.heap.get? b = some o → h'.get? b = some o) → EP X pins sg Q (.str d.shown tk) { s with heap := h', toks := tk2 } := fun h' tk tk2 kp => ⟨.str d.shown, H, I.kept (t' := tk2) kp, ⟨tk, rfl⟩, q.val sm (.str _)⟩
        have leaf : ∀ {x : Str} {tk : Tok} {tk2 : Nat}, d.shown = x → EP X pins sg Q (.str x tk) { s with toks := tk2 } := fun {x tk tk2} e => by
          rw [← e]; exact fin s.heap tk tk2 fun _ _ z => z
        cases d with
        | none => cases rd; exact PySem.P.repr_of_none (leaf (by simp only [PyData.shown]))
        | bool b => cases rd; exact PySem.P.repr_of_bool (leaf (by simp only [PyData.shown]))
        | int i => cases rd; exact PySem.P.repr_of_int (by simpa [PyData.showable] using h2) (leaf (by simp only [PyData.shown]))
        | str z => cases rd; exact PySem.P.repr_of_str (leaf (by simp only [PyData.shown])) (by simpa only [PyData.shown] using hsz)
        | dict _ => simp [PyData.canLay0] at hl
        | list l =>
          obtain ⟨aa, rfl⟩ := PyProof.Rows.isRef_of_reads rd rfl
          exact repr_of_reads' rd h2 (PyData.noDict_hsm (PyData.hasDict_of_canLay _ hl)) gd (by omega) (fun _ _ z => z) (fun h' tk tk2 kp => fin h' tk tk2 kp) hsz
        | tuple l =>
          obtain ⟨aa, rfl⟩ := PyProof.Rows.isRef_of_reads rd rfl
          exact repr_of_reads' rd h2 (PyData.noDict_hsm (PyData.hasDict_of_canLay _ hl)) gd (by omega) (fun _ _ z => z) (fun h' tk tk2 kp => fin h' tk tk2 kp) hsz
      · split at hp
        · rename_i d' b hz
          cases hp
          obtain ⟨l, o, es, n, rfl, e, c, hd, hes, hns⟩ := Vw.dct0 I sm a
          cases r0
          have rd : Reads s.heap (.ref l) (.dict []) [l] := by
            have := Reads.dict (kvs := []) e c hd (by rw [hes]; exact .nil) (by rw [hes]; exact .nil)
            simpa using this
          exact repr_of_reads' rd (by simp [PyData.showable, PyData.showableKv]) (fun _ z => by simp only [List.mem_singleton] at z; rw [z] at hns; simp at hns) gd (by simp [PyData.depth, PyData.depthKv]; omega) (fun _ _ z => z)
            (fun h' tk tk2 kp => ⟨.str (Str.ofString "{}"), H, I.kept (t' := tk2) kp, ⟨tk, by simp only [PyData.shown, PyData.shownKv]; rfl⟩, q.val sm (.str _)⟩) (by simp only [PyData.shown, PyData.shownKv]; decide +kernel)
        · rename_i d' b hz
          cases hp
          obtain ⟨la, xs, rfl, hla, hsh⟩ := a.list sm
          cases r0
          cases hsh with
          | cons hx hn =>
            cases hn
            obtain ⟨l, o, es, n, rfl, e, c, hd, hes, hns⟩ := Vw.dct0 I sm (.inl hx)
            have rd : Reads s.heap (.ref l) (.dict []) [l] := by
              have := Reads.dict (kvs := []) e c hd (by rw [hes]; exact .nil) (by rw [hes]; exact .nil)
              simpa using this
            obtain ⟨its, rr, pl, hzz⟩ := I.list (.of hla)
            cases rr with
            | cons rx rn =>
              cases rn
              cases rx
              obtain ⟨oa, ha1, ha2, na, ha3⟩ := id pl.isList
              have rds : ReadsAll s.heap [Value.ref l] [PyData.dict []] ([l] ++ []) := .cons rd .nil
              obtain ⟨bs, hb, hk⟩ := ReprAllK.of_readsAll (prog := X.prog) (w := X.w) rds (by simp [PyData.showableAll, PyData.showable, PyData.showableKv]) (fun _ z => by simp only [List.append_nil, List.mem_singleton] at z; rw [z] at hns; simp at hns) (fun t ht => by
                simp only [PyData.shownAll, PyData.shown, PyData.shownKv, List.mem_singleton] at ht
                rw [ht]; decide +kernel)
              have rl : Reads s.heap (.ref la) (.list [.dict []]) (la :: ([l] ++ [])) := Reads.list ha1 ha2 ha3 rds
              have hna : la ∉ bs := not_mem_of_deeper rl (by simp only [PyData.depth]; omega) hb
              refine call_repr_slot (by omega) ⟨oa, ha1, ha2⟩ F.slot_list_repr.toG (call_list_reprK ha1 ha2 ha3 hna (by simpa using hk.length_eq) (fun i y e => hk.item i y (by simpa using e)) (g := []) gd (fun b _ => Clear.nil b) (by simp [PyData.depthAll, PyData.depth, PyData.depthKv]; show X.A.units + 1 + _ < cLine; omega) (fun _ _ z => z) (fun h' tk tk2 kp => ?_) (by simp only [PyData.shownAll, PyData.shown, PyData.shownKv]; decide +kernel))
              exact ⟨_, tk, rfl, .str (Str.ofString "[{}]"), H, I.kept (t' := tk2) kp, ⟨tk, by simp only [PyData.shownAll, PyData.shown, PyData.shownKv]; rfl⟩, q.val sm (.str _)⟩
        · cases hp
  · cases hp
theorem pm_len : CallR X (.builtin "len") (rPrim X.K .len) := by
  intro pins s sg H vs us Q I rv h
  obtain ⟨J, ds, t, sm, vw, hp, q⟩ := h
  have hp : pLen ds = some t := hp
  unfold pLen at hp
  split at hp
  · cases hp
    obtain ⟨v, rfl, a⟩ := vw.one
    obtain ⟨l, xs, rfl, ha, ga⟩ := a.list sm
    exact call_len_seq pins s sg H _ us Q I rv ⟨l, xs, rfl, .inl (.of ha), by rw [shsLen ga]; exact q.val sm (.int _)⟩
  · cases hp
    obtain ⟨v, rfl, a⟩ := vw.one
    obtain ⟨l, xs, rfl, _, ha, ga⟩ := a.tuple sm
    exact call_len_seq pins s sg H _ us Q I rv ⟨l, xs, rfl, .inr (.of ha), by rw [shsLen ga]; exact q.val sm (.int _)⟩
  · cases hp
    obtain ⟨v, rfl, a⟩ := vw.one
    obtain ⟨l, xs, rfl, ha, ga⟩ := a.scr sm
    exact call_len_seq pins s sg H _ us Q I rv ⟨l, xs, rfl, .inl ha, by rw [shsLen ga]; exact q.val sm (.int _)⟩
  · cases hp
    obtain ⟨v, rfl, a⟩ := vw.one
    obtain ⟨l, ho, rfl, ha, ga⟩ := a.dict sm
    rename_i t' kvs
    cases t' with
    | false =>
      obtain ⟨ks, rfl, h1, h2⟩ := ga
      have hl : ks.length = kvs.length := by simpa using (congrArg List.length h1).symm
      exact call_lenD pins s sg H _ us Q I rv ⟨l, ks, rfl, ha, by rw [hl]; exact q.val sm (.int _)⟩
    | true =>
      obtain ⟨ks, rfl, h1, h2⟩ := ga
      have hl : ks.length = kvs.length := by simpa using (congrArg List.length h1).symm
      exact call_len_dT pins s sg H _ us Q I rv ⟨l, ks, rfl, ha, by rw [hl]; exact q.val sm (.int _)⟩
  · cases hp
theorem intsD_eq : ∀ {ds : List PyData} {ns : List Int}, intsD ds = some ns → ds = ns.map PyData.int
  | [], ns, h => by simp only [intsD] at h; cases h; rfl
  | d :: ds, ns, h => by
    cases d <;> simp only [intsD] at h <;> try (cases h; done)
    obtain ⟨m, hm, rfl⟩ := Option.map_eq_some_iff.mp h
    rw [intsD_eq hm]
    rfl
theorem shs_ints {K : PySem.W.Frag} {J : Hp} : ∀ {ns : List Int} {xs : List V}, ShAll K J xs (ns.map PyData.int) → xs = ns.map V.int
  | [], _, h => by cases h; rfl
  | n :: ns, _, h => by
    cases h with
    | cons a b => cases a; rw [shs_ints b]; rfl
theorem maxI_ok : ∀ (ns : List Int) (m : Int), maxI m ns ∈ m :: ns ∧ ∀ y ∈ m :: ns, y ≤ maxI m ns
  | [], m => ⟨List.mem_cons_self .., fun y h => by rw [List.mem_singleton.mp h]; exact Int.le_refl _⟩
  | n :: ns, m => by
    obtain ⟨a, b⟩ := maxI_ok ns (if n > m then n else m)
    have hm : (if n > m then n else m) = n ∨ (if n > m then n else m) = m := by split <;> simp
    have h0 := b _ (List.mem_cons_self ..)
    refine ⟨?_, fun y hy => ?_⟩
    · show maxI (if n > m then n else m) ns ∈ _
      rcases List.mem_cons.mp a with a | a
      · rw [a]; rcases hm with e | e <;> rw [e] <;> simp
      · simp [a]
    · show y ≤ maxI (if n > m then n else m) ns
      rcases List.mem_cons.mp hy with e | hy
      · rw [e]; refine Int.le_trans ?_ h0; split <;> omega
      · rcases List.mem_cons.mp hy with e | hy
        · rw [e]; refine Int.le_trans ?_ h0; split <;> omega
        · exact b y (List.mem_cons_of_mem _ hy)
theorem minI_ok : ∀ (ns : List Int) (m : Int), minI m ns ∈ m :: ns ∧ ∀ y ∈ m :: ns, minI m ns ≤ y
  | [], m => ⟨List.mem_cons_self .., fun y h => by rw [List.mem_singleton.mp h]; exact Int.le_refl _⟩
  | n :: ns, m => by
    obtain ⟨a, b⟩ := minI_ok ns (if n < m then n else m)
    have hm : (if n < m then n else m) = n ∨ (if n < m then n else m) = m := by split <;> simp
    have h0 := b _ (List.mem_cons_self ..)
    refine ⟨?_, fun y hy => ?_⟩
    · show minI (if n < m then n else m) ns ∈ _
      rcases List.mem_cons.mp a with a | a
      · rw [a]; rcases hm with e | e <;> rw [e] <;> simp
      · simp [a]
    · show minI (if n < m then n else m) ns ≤ y
      rcases List.mem_cons.mp hy with e | hy
      · rw [e]; refine Int.le_trans h0 ?_; split <;> omega
      · rcases List.mem_cons.mp hy with e | hy
        · rw [e]; refine Int.le_trans h0 ?_; split <;> omega
        · exact b y (List.mem_cons_of_mem _ hy)
theorem pm_max2 (hc : X.calm = true) : CallR X (.builtin "max") (rPrim X.K .max2) := by
  intro pins s sg H vs us Q I rv h
  obtain ⟨J, ds, t, sm, vw, hp, q⟩ := h
  have hp : pMax2 ds = some t := hp
  unfold pMax2 at hp
  split at hp
  · cases hp
    obtain ⟨v, u, rfl, a, b⟩ := vw.two
    rw [a.int, b.int] at rv
    exact call_max2 hc pins s sg H _ us Q I rv ⟨_, _, rfl, q.val sm (.int _)⟩
  · split at hp
    · rename_i n ns hi
      cases hp
      obtain ⟨v, rfl, a⟩ := vw.one
      obtain ⟨l, xs, rfl, ha, ga⟩ := a.list sm
      rw [intsD_eq hi] at ga
      have ex := shs_ints ga
      subst ex
      refine cr_max hc pins s sg H _ us Q I rv ⟨l, n :: ns, rfl, .of ha, Nat.succ_pos _, fun m h1 h2 => ?_⟩
      obtain ⟨m1, m2⟩ := maxI_ok ns n
      have : m = maxI n ns := Int.le_antisymm (m2 m h1) (h2 _ m1)
      rw [this]
      exact q.val sm (.int _)
    · cases hp
  · cases hp
theorem pm_min2 (hc : X.calm = true) : CallR X (.builtin "min") (rPrim X.K .min2) := by
  intro pins s sg H vs us Q I rv h
  obtain ⟨J, ds, t, sm, vw, hp, q⟩ := h
  have hp : pMin2 ds = some t := hp
  unfold pMin2 at hp
  split at hp
  · cases hp
    obtain ⟨v, u, rfl, a, b⟩ := vw.two
    rw [a.int, b.int] at rv
    exact call_min2 hc pins s sg H _ us Q I rv ⟨_, _, rfl, q.val sm (.int _)⟩
  · split at hp
    · rename_i n ns hi
      cases hp
      obtain ⟨v, rfl, a⟩ := vw.one
      obtain ⟨l, xs, rfl, ha, ga⟩ := a.list sm
      rw [intsD_eq hi] at ga
      have ex := shs_ints ga
      subst ex
      refine cr_min hc pins s sg H _ us Q I rv ⟨l, n :: ns, rfl, .of ha, Nat.succ_pos _, fun m h1 h2 => ?_⟩
      obtain ⟨m1, m2⟩ := minI_ok ns n
      have : m = minI n ns := Int.le_antisymm (h2 _ m1) (m2 m h1)
      rw [this]
      exact q.val sm (.int _)
    · cases hp
  · cases hp
theorem pm_sum (hc : X.calm = true) : CallR X (.builtin "sum") (rPrim X.K .sum) := by
  intro pins s sg H vs us Q I rv h
  obtain ⟨J, ds, t, sm, vw, hp, q⟩ := h
  have hp : pSum ds = some t := hp
  unfold pSum at hp
  split at hp
  · obtain ⟨ns, hi, rfl⟩ := Option.map_eq_some_iff.mp hp
    obtain ⟨v, rfl, a⟩ := vw.one
    obtain ⟨l, xs, rfl, ha, ga⟩ := a.list sm
    rw [intsD_eq hi] at ga
    have ex := shs_ints ga
    subst ex
    exact cr_sum hc pins s sg H _ us Q I rv ⟨l, ns, rfl, .of ha, q.val sm (.int _)⟩
  · cases hp
theorem Vw.isNon {K : PySem.W.Frag} {H J : Hp} {v : V} {d : PyData} (h : Vw K H J v d) : decide (v = .non) = Ev.isNon d := by
  rcases h with h | ⟨a, xs, es, rfl, rfl, _⟩ | ⟨_, _, _, _, rfl, rfl, _⟩
  · cases h <;> rfl
  · rfl
  · rfl
theorem Vw.non {K : PySem.W.Frag} {H J : Hp} {v : V} (h : Vw K H J v .none) : v = .non := of_decide_eq_true (h.isNon.trans rfl)
theorem pm_is : OpR X (compareOp .Is) (rPrim2 X.K .is_) := by
  intro pins s sg H x y v u Q I rx ry h
  obtain ⟨J, ds, t, sm, vw, hp, q⟩ := h
  have hp : pIs ds = some t := hp
  unfold pIs at hp
  split at hp
  · cases hp
    obtain ⟨a, b⟩ := vw.two'
    refine op_isN pins s sg H x y v u Q I rx ry ⟨b.non, ?_⟩
    rw [a.isNon]
    exact q.val sm (.bl _)
  · cases hp
    obtain ⟨a, b⟩ := vw.two'
    exact op_isBl pins s sg H x y v u Q I rx ry ⟨_, _, a.bl, b.bl, q.val sm (.bl _)⟩
  · cases hp
theorem pm_isnot : OpR X (compareOp .IsNot) (rPrim2 X.K .isnot) := by
  intro pins s sg H x y v u Q I rx ry h
  obtain ⟨J, ds, t, sm, vw, hp, q⟩ := h
  have hp : pIsnot ds = some t := hp
  unfold pIsnot at hp
  split at hp
  · cases hp
    obtain ⟨a, b⟩ := vw.two'
    refine op_notN pins s sg H x y v u Q I rx ry ⟨b.non, ?_⟩
    rw [a.isNon]
    exact q.val sm (.bl _)
  · cases hp
    obtain ⟨a, b⟩ := vw.two'
    exact op_notBl pins s sg H x y v u Q I rx ry ⟨_, _, a.bl, b.bl, q.val sm (.bl _)⟩
  · cases hp
theorem op_dget_in (hu : X.A.units + 1 < cLine) : OpR X (compareOp .In) (fun x y H Q => ∃ a o, y = .ref a ∧ DGet H a x o ∧ Q (.bl o.isSome) H) := by
  intro pins s sg H x y v u Q I rx ry h
  obtain ⟨a, o, rfl, g, q⟩ := h
  obtain rfl : u = Value.ref a := ry
  exact d_in hu I g rx fun s3 I3 => ⟨.bl o.isSome, H, I3, rfl, q⟩
theorem op_dget_notin (hu : X.A.units + 1 < cLine) : OpR X (compareOp .NotIn) (fun x y H Q => ∃ a o, y = .ref a ∧ DGet H a x o ∧ Q (.bl (!o.isSome)) H) := by
  intro pins s sg H x y v u Q I rx ry h
  obtain ⟨a, o, rfl, g, q⟩ := h
  obtain rfl : u = Value.ref a := ry
  exact d_notIn hu I g rx fun s3 I3 => ⟨.bl (!o.isSome), H, I3, rfl, q⟩
theorem sh_flat {K : PySem.W.Frag} {J : Hp} {v : V} {d : PyData} (h : Sh K J v d) (hd : flatD d = true) : flatV v = true := by
  cases h <;> first | rfl | exact absurd hd Bool.false_ne_true
theorem Vw.shF {K : PySem.W.Frag} {H J : Hp} {v : V} {d : PyData} (h : Vw K H J v d) (hd : flatD d = true) : Sh K J v d := by
  rcases h with h | ⟨_, _, _, _, e, _⟩ | ⟨_, _, _, _, _, e, _⟩
  · exact h
  · rw [e] at hd; exact absurd hd Bool.false_ne_true
  · rw [e] at hd; exact absurd hd Bool.false_ne_true
theorem Vw.flat {K : PySem.W.Frag} {H J : Hp} {v : V} {d : PyData} (h : Vw K H J v d) (hd : flatD d = true) : flatV v = true := sh_flat (h.shF hd) hd
theorem shs_flat {K : PySem.W.Frag} {J : Hp} : ∀ {xs : List V} {ds : List PyData}, ShAll K J xs ds → ds.all flatD = true → xs.all flatV = true
  | _, _, .nil, _ => rfl
  | _, _, .cons h g, hd => by
    rw [List.all_cons, Bool.and_eq_true] at hd
    rw [List.all_cons, sh_flat h hd.1, shs_flat g hd.2]; rfl
theorem eqV_eqv {K : PySem.W.Frag} {J : Hp} {x y : V} {d e : PyData} (h : Sh K J x d) (g : Sh K J y e) (hd : flatD d = true) (he : flatD e = true) : eqV x y = PyData.eqv d e := by
  cases h <;> first | exact absurd hd Bool.false_ne_true | (cases g <;> first | exact absurd he Bool.false_ne_true | rfl | (simp [eqV, PyData.eqv]))
theorem inV_flat {K : PySem.W.Frag} {H J : Hp} {v : V} {d : PyData} (h : Vw K H J v d) (hd : flatD d = true) : ∀ {xs : List V} {ds : List PyData}, ShAll K J xs ds → ds.all flatD = true → inV v xs = inD d ds
  | _, _, .nil, _ => rfl
  | _, _, .cons a g, he => by
    rw [List.all_cons, Bool.and_eq_true] at he
    have ih := inV_flat h hd g he.2
    unfold inV inD at *
    rw [List.any_cons, List.any_cons, ih, eqV_eqv a (h.shF hd) he.1 hd]
theorem shs_allInt {K : PySem.W.Frag} {J : Hp} : ∀ {xs : List V} {ds : List PyData}, ShAll K J xs ds → ds.all isIntD = true → ∀ {us : List Value}, Vals xs us → ∀ u ∈ us, ∃ i t, u = .int i t
  | _, _, .nil, _, _, .nil, u, hu => by cases hu
  | _, _, .cons h g, hd, _, .cons r t, u, hu => by
    rw [List.all_cons, Bool.and_eq_true] at hd
    rcases List.mem_cons.mp hu with rfl | hu
    · cases h with
      | int i => obtain ⟨t, rfl⟩ := r; exact ⟨_, _, rfl⟩
      | _ => exact absurd hd.1 Bool.false_ne_true
    · exact shs_allInt g hd.2 t u hu
theorem Vw.dctAt {X : Cx} {pins : List (Addr × Obj)} {sg : St} {H J : Hp} {s : Shared} {v : V} {d : PyData} (I : Inv X pins sg H s) (sm : Same J H) (h : Vw X.K H J v d) (hd : isDctD d = true) : ∃ l es n o, v = .ref l ∧ s.heap.get? l = some o ∧ o.cls = .type "dict" ∧ o.data = .dict es n := by
  unfold isDctD at hd
  split at hd
  · obtain ⟨l, ho, rfl, ha, hr⟩ := h.dict sm
    rename_i t kvs
    cases t with
    | false =>
      obtain ⟨ks, rfl, _, _⟩ := hr
      obtain ⟨_, _, vs, _, ob, es, ep, e, c, c2, _⟩ := (show ObjOk X.prog X.w H s.heap l (.dK ks) from I.hok l _ ha)
      exact ⟨l, _, _, ob, rfl, e, c.1, c2⟩
    | true =>
      obtain ⟨ks, rfl, _, _⟩ := hr
      obtain ⟨_, _, vs, _, ob, es, ep, e, c, c2, _⟩ := (show ObjOk X.prog X.w H s.heap l (.dT ks) from I.hok l _ ha)
      exact ⟨l, _, _, ob, rfl, e, c.1, c2⟩
  · cases hd
theorem pm_in (hu : X.A.units + 65 < cLine) : OpR X (compareOp .In) (rPrim2 X.K .in_) := by
  intro pins s sg H x y v u Q I rx ry h
  obtain ⟨J, ds, t, sm, vw, hp, q⟩ := h
  have hp : pIn ds = some t := hp
  unfold pIn at hp
  split at hp
  · obtain ⟨a, b⟩ := vw.two'
    split at hp
    · rename_i hk
      cases hp
      obtain ⟨l, ho, rfl, ha, ga⟩ := b.dict sm
      obtain ⟨o, hg, ho2⟩ := ga.get sm ha (a.key sm hk)
      refine op_dget_in (by omega) pins s sg H _ _ v u Q I rx ry ⟨l, o, rfl, hg, ?_⟩
      rw [isSome_of ho2]
      exact q.val sm (.bl _)
    · cases hp
  · obtain ⟨a, b⟩ := vw.two'
    split at hp
    · rename_i hz
      cases hp
      simp only [Bool.and_eq_true] at hz
      exact op_inD hu pins s sg H x y v u Q I rx ry ⟨_, _, a.dp sm (shp_lay hz.1), b.dp sm (shp_lay hz.2), hz.1, hz.2, q.val sm (.bl _)⟩
    · split at hp
      · rename_i hz
        cases hp
        simp only [Bool.and_eq_true] at hz
        obtain ⟨p, xs, rfl, ha, ga⟩ := b.list sm
        refine op_in_seq pins s sg H x _ v u Q I rx ry ⟨p, xs, rfl, .inl (.of ha), a.flat hz.1, shs_flat ga hz.2, ?_⟩
        simp only [Bool.false_eq_true, if_false, inV_flat a hz.1 ga hz.2]
        exact q.val sm (.bl _)
      · cases hp
  · obtain ⟨a, b⟩ := vw.two'
    split at hp
    · rename_i hz
      cases hp
      simp only [Bool.and_eq_true] at hz
      obtain ⟨as, r1⟩ := Dp.reads I _ x v (a.dp sm (shp_lay hz.1)) rx
      obtain ⟨bs, r2⟩ := Dp.reads I _ y u (b.dp sm (shp_lay hz.2)) ry
      exact SeqAt.in_tuple_reads r2 r1 (SeqAt.canLay_of_shaped hz.2) (SeqAt.canLay_of_shaped hz.1) (PyProof.Rows.room_in_shaped hz.1 hu) ⟨.bl _, H, I, rfl, q.val sm (.bl _)⟩
    · split at hp
      · rename_i hz
        cases hp
        simp only [Bool.and_eq_true] at hz
        obtain ⟨l, es, n, o, rfl, hg, hc, hd⟩ := Vw.dctAt I sm a hz.1
        obtain ⟨p, xs, rfl, _, ha, hsh⟩ := b.tuple sm
        cases rx
        cases ry
        obtain ⟨its, r, pl, hzz⟩ := I.tuple (.of ha)
        refine SeqAt.in_tupleAt (fun _ => false) pl (fun w hw => ?_) ⟨.bl _, H, I, rfl, ?_⟩
        · obtain ⟨i, t, rfl⟩ := shs_allInt hsh hz.2 r w (by simpa using hw)
          exact eqAt_int_dict i t hg hc hd (by show X.A.units + 1 < cLine; omega)
        · rw [show its.toArray.any (fun _ => false) = false by simp]
          exact q.val sm (.bl _)
      · cases hp
  · cases hp
theorem pm_notin (hu : X.A.units + 65 < cLine) : OpR X (compareOp .NotIn) (rPrim2 X.K .notin) := by
  intro pins s sg H x y v u Q I rx ry h
  obtain ⟨J, ds, t, sm, vw, hp, q⟩ := h
  have hp : pNotin ds = some t := hp
  unfold pNotin at hp
  split at hp
  · obtain ⟨a, b⟩ := vw.two'
    split at hp
    · rename_i hk
      cases hp
      obtain ⟨l, ho, rfl, ha, ga⟩ := b.dict sm
      obtain ⟨o, hg, ho2⟩ := ga.get sm ha (a.key sm hk)
      refine op_dget_notin (by omega) pins s sg H _ _ v u Q I rx ry ⟨l, o, rfl, hg, ?_⟩
      rw [isSome_of ho2]
      exact q.val sm (.bl _)
    · cases hp
  · obtain ⟨a, b⟩ := vw.two'
    split at hp
    · rename_i hz
      cases hp
      simp only [Bool.and_eq_true] at hz
      exact op_notInD hu pins s sg H x y v u Q I rx ry ⟨_, _, a.dp sm (shp_lay hz.1), b.dp sm (shp_lay hz.2), hz.1, hz.2, q.val sm (.bl _)⟩
    · split at hp
      · rename_i hz
        cases hp
        simp only [Bool.and_eq_true] at hz
        obtain ⟨p, xs, rfl, ha, ga⟩ := b.list sm
        refine op_notIn_seq pins s sg H x _ v u Q I rx ry ⟨p, xs, rfl, .inl (.of ha), a.flat hz.1, shs_flat ga hz.2, ?_⟩
        simp only [if_true, inV_flat a hz.1 ga hz.2]
        exact q.val sm (.bl _)
      · cases hp
  · obtain ⟨a, b⟩ := vw.two'
    split at hp
    · rename_i hz
      cases hp
      simp only [Bool.and_eq_true] at hz
      obtain ⟨as, r1⟩ := Dp.reads I _ x v (a.dp sm (shp_lay hz.1)) rx
      obtain ⟨bs, r2⟩ := Dp.reads I _ y u (b.dp sm (shp_lay hz.2)) ry
      exact SeqAt.notIn_tuple_reads r2 r1 (SeqAt.canLay_of_shaped hz.2) (SeqAt.canLay_of_shaped hz.1) (PyProof.Rows.room_in_shaped hz.1 hu) ⟨.bl _, H, I, rfl, q.val sm (.bl _)⟩
    · cases hp
  · cases hp
theorem pMaxd_some {ds : List PyData} {t : Slot} (h : pMaxd ds = some t) : ∃ es ns, ds = [.list es] ∧ intsD es = some ns ∧ (ns = [] → t = .sh .none) ∧ ∀ m ms, ns = m :: ms → t = .sh (.int (ms.foldl max m)) := by
  unfold pMaxd at h
  split at h
  · split at h
    · rename_i e
      cases h
      exact ⟨_, _, rfl, e, (fun z => nomatch z), fun m ms z => by cases z; rfl⟩
    · rename_i e
      cases h
      exact ⟨_, _, rfl, e, (fun _ => rfl), (fun m ms z => nomatch z)⟩
    · cases h
  · cases h
theorem pm_maxd (hc : X.calm = true) (hu : X.A.units + 65 < cLine) : CallRK X (.builtin "max") [Str.ofString "default"] (fun vs zs H Q => zs = [V.non] ∧ rPrim X.K .maxd vs H Q) := by
  intro pins s sg H vs zs us ws Q I rv rz h
  obtain ⟨rfl, J, ds, t, sm, vw, hp, q⟩ := h
  obtain ⟨es, ns, rfl, hns, h0, h1⟩ := pMaxd_some (show pMaxd ds = some t from hp)
  · skip
    obtain ⟨v, rfl, a⟩ := vw.one
    obtain ⟨l, xs, rfl, ha, ga⟩ := a.list sm
    cases rv with
    | cons r1 r2 =>
      cases r2
      cases r1
      cases rz with
      | cons z1 z2 =>
      cases z2
      rename_i wv
      obtain rfl : wv = Value.none := z1
      obtain ⟨hl, its, n, rits, eo⟩ := (show ObjOk X.prog X.w H s.heap l (.lst xs) from I.hok l _ ha)
      · skip
        have hes := intsD_eq hns
        subst hes
        have ex := shs_ints ga
        subst ex
        have dpa : DpAll X.K H (ns.map V.int) (ns.map PyData.int) := shsDp (by
          clear h0 h1 hns rits eo hl ga ha a vw hp q
          induction ns with
          | nil => rfl
          | cons m ms ih => simp [PyData.canLayAll0, PyData.canLay0, ih]) (shsMono sm ga)
        obtain ⟨as, ras⟩ := Dp.readsAll I _ _ _ dpa rits
        have hdep : PyData.depthAll (ns.map PyData.int) ≤ 0 := by
          clear h0 h1 hns rits eo hl ga ha a vw hp q dpa ras
          induction ns with
          | nil => simp [PyData.depthAll]
          | cons m ms ih => simp only [List.map_cons, PyData.depthAll, PyData.depth]; omega
        refine PySem.W.max_list_default (l := l) (vs := its.toArray) (xs := ns.map PyData.int) (I.ok.hd hc) ⟨_, eo, rfl, n, rfl⟩ ras ⟨?_, ?_⟩ (by omega) ?_ ?_
        · intro x hx y hy
          obtain ⟨i, _, rfl⟩ := List.mem_map.mp hx
          obtain ⟨j, _, rfl⟩ := List.mem_map.mp hy
          simp [PySem.W.alike]
        · intro x hx z
          obtain ⟨i, _, rfl⟩ := List.mem_map.mp hx
          cases z
        · intro e0 h' tk hk
          have e0' : ns = [] := by simpa using e0
          have := h0 e0'
          subst this
          exact ⟨.non, H, I.kept (t' := tk) hk, rfl, q.val sm .non⟩
        · intro y ys i v h' tk bs e1 e2 rd hk
          cases ns with
          | nil => cases e1
          | cons m ms =>
            simp only [List.map_cons, List.cons.injEq] at e1
            obtain ⟨rfl, rfl⟩ := e1
            have := h1 m ms rfl
            subst this
            rw [PySem.W.maxD_ints] at rd
            have hv : ∃ tt, v = .int (ms.foldl max m) tt := by
              cases rd
              exact ⟨_, rfl⟩
            obtain ⟨tt, rfl⟩ := hv
            exact ⟨.int _, H, I.kept (t' := tk) hk, ⟨tt, rfl⟩, q.val sm (.int _)⟩
theorem pLrng_some {ds : List PyData} {t : Slot} (h : pLrng ds = some t) : ∃ n : Int, ds = [.int n] ∧ -1000000000 ≤ n ∧ n ≤ 16777216 ∧ t = .lst ((List.range n.toNat).map fun (k : Nat) => PyData.int (k : Int)) := by
  unfold pLrng at h
  split at h
  · split at h
    · rename_i n hz
      simp only [Bool.and_eq_true, decide_eq_true_eq] at hz
      exact ⟨_, rfl, hz.1, hz.2, (Option.some.inj h).symm⟩
    · cases h
  · cases h
theorem lrng_of {K : PySem.W.Frag} {H : Hp} {vs : List V} {Q : VK} (h : rPrim K .lrng vs H Q) : ∃ n, vs = [.int n] ∧ RgOk 0 n ∧ ∀ p, H p = none → Q (.ref p) (upd H p (.lst (rgV 0 n))) := by
  obtain ⟨J, ds, t, sm, vw, hp, q⟩ := h
  obtain ⟨n, rfl, h1, h2, rfl⟩ := pLrng_some (show pLrng ds = some t from hp)
  obtain ⟨v, rfl, a⟩ := vw.one
  refine ⟨n, by rw [a.int], ⟨by omega, by omega, by omega, by omega, by omega⟩, fun p hp => q.lst sm hp ?_⟩
  have e : rgV 0 n = ((List.range n.toNat).map fun (k : Nat) => (k : Int)).map V.int := by
    unfold rgV
    simp
  have e2 : ((List.range n.toNat).map fun (k : Nat) => PyData.int (k : Int)) = ((List.range n.toNat).map fun (k : Nat) => (k : Int)).map PyData.int := by simp
  rw [e, e2]
  exact shsInts _
theorem boolsD_eq : ∀ {ds : List PyData} {bs : List Bool}, boolsD ds = some bs → ds = bs.map PyData.bool
  | [], ns, h => by simp only [boolsD] at h; cases h; rfl
  | .bool i :: ds, ns, h => by
    simp only [boolsD] at h
    obtain ⟨ms, hm, rfl⟩ := Option.map_eq_some_iff.mp h
    rw [boolsD_eq hm]; rfl
  | .none :: ds, ns, h => by simp [boolsD] at h
  | .int _ :: ds, ns, h => by simp [boolsD] at h
  | .str _ :: ds, ns, h => by simp [boolsD] at h
  | .list _ :: ds, ns, h => by simp [boolsD] at h
  | .tuple _ :: ds, ns, h => by simp [boolsD] at h
  | .dict _ :: ds, ns, h => by simp [boolsD] at h
theorem shs_bools {K : PySem.W.Frag} {J : Hp} : ∀ {bs : List Bool} {xs : List V}, ShAll K J xs (bs.map PyData.bool) → xs = bs.map V.bl
  | [], _, h => by cases h; rfl
  | b :: bs, _, h => by
    cases h with
    | cons a t => cases a; rw [shs_bools t]; rfl
theorem pm_all (hc : X.calm = true) : CallR X (.builtin "all") (rPrim X.K .all_) := by
  intro pins s sg H vs us Q I rv h
  obtain ⟨J, ds, t, sm, vw, hp, q⟩ := h
  have hp : pAll ds = some t := hp
  unfold pAll at hp
  split at hp
  · obtain ⟨bs, hb, rfl⟩ := Option.map_eq_some_iff.mp hp
    obtain ⟨v, rfl, a⟩ := vw.one
    obtain ⟨l, xs, rfl, ha, ga⟩ := a.list sm
    rw [boolsD_eq hb] at ga
    have ex := shs_bools ga
    subst ex
    exact cr_all hc pins s sg H _ us Q I rv ⟨l, bs, rfl, .of ha, q.val sm (.bl _)⟩
  · cases hp
theorem pm_any (hc : X.calm = true) : CallR X (.builtin "any") (rPrim X.K .any_) := by
  intro pins s sg H vs us Q I rv h
  obtain ⟨J, ds, t, sm, vw, hp, q⟩ := h
  have hp : pAny ds = some t := hp
  unfold pAny at hp
  split at hp
  · obtain ⟨bs, hb, rfl⟩ := Option.map_eq_some_iff.mp hp
    obtain ⟨v, rfl, a⟩ := vw.one
    obtain ⟨l, xs, rfl, ha, ga⟩ := a.list sm
    rw [boolsD_eq hb] at ga
    have ex := shs_bools ga
    subst ex
    exact cr_any hc pins s sg H _ us Q I rv ⟨l, bs, rfl, .of ha, q.val sm (.bl _)⟩
  · cases hp
theorem pm_list : CallR X (.type "list") (rPrim X.K .list_) := by
  intro pins s sg H vs us Q I rv h
  obtain ⟨J, ds, t, sm, vw, hp, q⟩ := h
  have hp : pList ds = some t := hp
  unfold pList at hp
  split at hp
  · cases hp
    obtain ⟨v, rfl, a⟩ := vw.one
    obtain ⟨l, xs, rfl, ha, ga⟩ := a.list sm
    exact call_list_of pins s sg H _ us Q I rv ⟨l, xs, rfl, .inl (.of ha), fun p hp => q.lst sm hp ga⟩
  · cases hp
    obtain ⟨v, rfl, a⟩ := vw.one
    obtain ⟨l, xs, rfl, _, ha, ga⟩ := a.tuple sm
    exact call_list_of pins s sg H _ us Q I rv ⟨l, xs, rfl, .inr (.of ha), fun p hp => q.lst sm hp ga⟩
  · cases hp
theorem pm_tuple : CallR X (.type "tuple") (rPrim X.K .tuple_) := by
  intro pins s sg H vs us Q I rv h
  obtain ⟨J, ds, t, sm, vw, hp, q⟩ := h
  have hp : pTuple ds = some t := hp
  unfold pTuple at hp
  split at hp
  · cases hp
    obtain ⟨v, rfl, a⟩ := vw.one
    obtain ⟨l, xs, rfl, ha, ga⟩ := a.list sm
    exact call_tuple_of pins s sg H _ us Q I rv ⟨l, xs, rfl, .inl ⟨.of ha, fun p hp => q.tup sm hp ga⟩⟩
  · cases hp
    obtain ⟨v, rfl, a⟩ := vw.one
    obtain ⟨l, xs, rfl, ja, ha, ga⟩ := a.tuple sm
    exact call_tuple_of pins s sg H _ us Q I rv ⟨l, xs, rfl, .inr ⟨.of ha, q.val sm (.tup ja ga)⟩⟩
  · cases hp
theorem pm_int : CallR X (.type "int") (rPrim X.K .int_) := by
  intro pins s sg H vs us Q I rv h
  obtain ⟨J, ds, t, sm, vw, hp, q⟩ := h
  have hp : pInt ds = some t := hp
  unfold pInt at hp
  split at hp
  · cases hp
    obtain ⟨v, rfl, a⟩ := vw.one
    rw [a.int] at rv
    exact call_int1 pins s sg H _ us Q I rv (.inl ⟨_, rfl, q.val sm (.int _)⟩)
  · cases hp
    obtain ⟨v, rfl, a⟩ := vw.one
    rw [a.bl] at rv
    exact call_int1 pins s sg H _ us Q I rv (.inr ⟨_, rfl, q.val sm (.int _)⟩)
  · cases hp
end
end Ev
end

section
set_option Elab.async false
set_option linter.all false
set_option maxRecDepth 100000
set_option maxHeartbeats 4000000
set_option backward.match.sparseCases false
namespace Ev
open PySem L2
variable [Errs]

/-! ### the text against the evaluator's terms -/
/-- what the program's top holds -/
structure Tx where
  names : List Str
  consts : List (Str × PyData)
  clss : List (Str × List Nat) := []
  excs : List (Str × Nat × String) := []
structure Prg where
  tx : Tx

def cstIs : Const → PyData → Bool
  | .none, .none => true
  | .bool a, .bool b => a == b
  | .int a, .int b => decide (a = b)
  | .str a, .str b => decide (a = b)
  | _, _ => false

section
variable (P : Tx) (N : List Str)
/-- a name of a slot -/
def isV (sc : Scope) (i : Nat) (x : Str) : Bool :=
  decide (N[i]? = some x) && (match sc.names.lookup x with | some .local => true | some .cell => true | some .free => true | _ => false) && !(x == ("__debug__" : Str)) && !(x == ("__classdict__" : Str))
/-- a name that may be stored to -/
def isL (sc : Scope) (fb : Str → Bool) (i : Nat) (x : Str) : Bool :=
  decide (N[i]? = some x) && (match sc.names.lookup x with | some .local => true | some .cell => fb x | _ => false)
/-- a name of the module or a built-in one -/
def isG (sc : Scope) (x : Str) : Bool := (match sc.names.lookup x with | some .globalImplicit => true | _ => false) && !(x == ("__debug__" : Str))

mutual
def okT (sc : Scope) (fb : Str → Bool) : CT → Expr → Bool
  | .name i, .Name x _ => isL N sc fb i x
  | .tup ts, .Tuple l _ _ => okTs sc fb ts l
  | _, _ => false
def okTs (sc : Scope) (fb : Str → Bool) : CTs → List Expr → Bool
  | .nil, [] => true
  | .cons t ts, e :: l => okT sc fb t e && okTs sc fb ts l
  | _, _ => false
end
mutual
def slotsT : CT → List Nat
  | .name i => [i]
  | .tup ts => slotsTs ts
def slotsTs : CTs → List Nat
  | .nil => []
  | .cons t ts => slotsT t ++ slotsTs ts
end

def tyOk (t : String) : Bool := t == "int" || t == "bool" || t == "str" || t == "list" || t == "tuple" || t == "dict"
def bname : Op → Option Str
  | .len => some "len" | .max2 => some "max" | .min2 => some "min" | .list_ => some "list" | .tuple_ => some "tuple" | .int_ => some "int" | .sorted => some "sorted" | .sum => some "sum" | .all_ => some "all" | .any_ => some "any" | .repr => some "repr" | .str_ => some "str"
  | _ => none
def binOf : Op → Option Operator
  | .add => some .Add | .sub => some .Sub | .mul => some .Mult | .fdiv => some .FloorDiv | .mod => some .Mod | .pow => some .Pow
  | _ => none
def cmpOf : Op → Option CmpOp
  | .eq => some .Eq | .ne => some .NotEq | .lt => some .Lt | .le => some .LtE | .gt => some .Gt | .ge => some .GtE | .is_ => some .Is | .isnot => some .IsNot | .in_ => some .In | .notin => some .NotIn
  | _ => none
def isSlice : Expr → Bool
  | .Slice _ _ _ _ => true
  | _ => false
def isSet : Expr → Bool
  | .Set _ _ _ => true
  | _ => false
def isTup : Expr → Bool
  | .Tuple _ _ _ => true
  | _ => false
def isStar : Expr → Bool
  | .Starred _ _ => true
  | _ => false
def isLc : Expr → Bool
  | .ListComp _ _ _ _ => true
  | .SetComp _ _ _ _ => true
  | .DictComp _ _ _ _ _ => true
  | _ => false
def isiOf : Op → Option String
  | .isi t => some t
  | _ => none
def nameOf : Expr → Option Str
  | .Name x _ => some x
  | _ => none
def isiForm (sc : Scope) (o : Op) (x : Str) (a : Expr) (as : List Expr) : Option (List Expr) :=
  match isiOf o with
  | some t => if decide (x = "isinstance") && decide (as.map nameOf = [some (Str.ofString t)]) && isG sc x && isG sc (Str.ofString t) && tyOk t then some [a] else none
  | none => none
def badE : Expr → Bool
  | .Starred _ _ => true
  | .Set _ _ _ => true
  | .SetComp _ _ _ _ => true
  | .DictComp _ _ _ _ _ => true
  | _ => false
/-- the operands of a slice -/
def slForm (o : Op) (a b : Expr) : Option (List Expr) := match o, b with
  | .sl true false, .Slice (some x) none none _ => some [a, x]
  | .sl false true, .Slice none (some y) none _ => some [a, y]
  | .rev, .Slice none none (some (.UnaryOp .USub (.Constant (.int 1) _ _) _)) _ => some [a]
  | _, _ => none
/-- the operands of an operation of the text -/
def opForm (sc : Scope) (o : Op) : Expr → Option (List Expr)
  | .BinOp a op b _ => if binOf o = some op then some [a, b] else none
  | .Compare a [op] [b] _ => if cmpOf o = some op && !isSet b then some [a, b] else none
  | .UnaryOp .USub a _ => if o = .neg then some [a] else none
  | .Subscript a b _ => if o = .item && !isSlice b then some [a, b] else slForm o a b
  | .Call (.Name x _) (a :: as) [] _ => if (isiOf o).isSome then isiForm sc o x a as else if bname o = some x && isG sc x then some (a :: as) else none
  | _ => none

def mthd (m : Str) (i : Nat) (sc : Scope) : Expr → Option Expr
  | .Call (.Attribute (.Name x _) a ap) [e] [] cp => if decide (a = m) && isV N sc i x && !isStar e && (ap.endLine == cp.line) then some e else none
  | _ => none

def isCall : Expr → Bool
  | .Call _ _ _ _ => true
  | _ => false
/-- the errors that some classes of the text stand for -/
def clsAll (sc : Scope) : List Expr → Option (List Nat)
  | [] => some []
  | .Name x _ :: l => if isG sc x = true then (match P.clss.lookup x, clsAll sc l with
    | some a, some b => some (a ++ b)
    | _, _ => none) else none
  | _ => none
def clsForm (sc : Scope) (cs : List Nat) : Expr → Bool
  | .Name x _ => isG sc x && decide (P.clss.lookup x = some cs)
  | .Tuple l _ _ => decide (clsAll P sc l = some cs) && decide (l.length ≤ 100)
  | _ => false
mutual
def okE (sc : Scope) : CE → Expr → Bool
  | .var i, .Name x _ => isV N sc i x
  | .ref i, .Name x _ => isV N sc i x
  | .shr i, .Name x _ => isV N sc i x
  | .dnew _, .Dict [] [] _ => true
  | .own c, e => okE sc c e && !badE e
  | .pop i c, e => (match mthd N "pop" i sc e with | some x => okE sc c x | none => false)
  | .cst d, .Constant c _ _ => cstIs c d
  | .glob y d, .Name x _ => decide (x = y) && isG sc x && (match P.consts.lookup x with | some (.int j) => cstIs (.int j) d | some (.str j) => cstIs (.str j) d | _ => false)
  | .op o es, e => (match opForm sc o e with | some l => okEs sc es l | none => false)
  | .xop (.isc cs) (.cons c .nil), .Call (.Name x _) [a, k] [] _ => decide (x = "isinstance") && isG sc x && okE sc c a && clsForm P sc cs k
  | .xop (.fld f) (.cons c .nil), .Attribute a n _ => decide (n = Str.ofString f) && okE sc c a && !isCall a && decide (f ∈ ["at", "part"])
  | .xop .maxd (.cons c .nil), .Call (.Name x _) [a] [⟨some k, .Constant .none _ _, _⟩] _ => decide (x = "max") && isG sc x && decide (k = "default") && okE sc c a
  | .xop .lrng (.cons c .nil), .Call (.Name x _) [.Call (.Name y _) [a] [] _] [] _ => decide (x = "list") && isG sc x && decide (y = "range") && isG sc y && okE sc c a
  | .meth .get i (.cons c .nil), .Call (.Attribute (.Name x _) m ap) [a] [] cp => decide (m = "get") && isV N sc i x && okE sc c a && (ap.endLine == cp.line)
  | .meth .get i (.cons c (.cons d .nil)), .Call (.Attribute (.Name x _) m ap) [a, b] [] cp => decide (m = "get") && isV N sc i x && okE sc c a && okE sc d b && (ap.endLine == cp.line)
  | .xnew c f a, .Call (.Name x _) [e] [] _ => isG sc x && decide (P.excs.lookup x = some (c, f)) && okE sc a e
  | .sl2 a b c, .Subscript x (.Slice (some y) (some z) none _) _ => okE sc a x && okE sc b y && okE sc c z
  | .tup es, .Tuple l _ _ => okEs sc es l && decide (es.len ≤ 1000)
  | .lst es, .List l _ => okEs sc es l && decide (es.len ≤ 1000)
  | .not a, .UnaryOp .Not e _ => okE sc a e
  | .and a b, .BoolOp .And [x, y] _ => okE sc a x && okE sc b y
  | .and a b, .BoolOp .And (x :: y :: z :: l) p => okE sc a x && okE sc b (.BoolOp .And (y :: z :: l) p)
  | .or a b, .BoolOp .Or [x, y] _ => okE sc a x && okE sc b y
  | .or a b, .BoolOp .Or (x :: y :: z :: l) p => okE sc a x && okE sc b (.BoolOp .Or (y :: z :: l) p)
  | .chain o p a b c, .Compare x [o1, o2] [y, z] _ => decide (cmpOf o = some o1) && decide (cmpOf p = some o2) && !isSet z && !isSet y && okE sc a x && okE sc b y && okE sc c z
  | .lc elt tg it cond own, .ListComp e [⟨t, i, ifs, 0⟩] scope _ => blkC N sc scope own && okT N (relS scope sc) (fun x => scope.names.lookup x == some .cell) tg t && okI sc t it i && okEs (relS scope sc) cond ifs && okE (relS scope sc) elt e
      && (slotsT tg).all fun j => decide (j ∈ own.map (·.2))
  | .call f .nil, .Call (.Name x _) [] [] _ => decide (P.names[f]? = some x) && isG sc x
  | .call f es, .Call (.Name x _) (a :: as) [] _ => decide (P.names[f]? = some x) && isG sc x && okEs sc es (a :: as)
  | _, _ => false
def okEs (sc : Scope) : CEs → List Expr → Bool
  | .nil, [] => true
  | .cons c cs, e :: l => okE sc c e && okEs sc cs l
  | _, _ => false
def okI (sc : Scope) (tg : Expr) : CI → Expr → Bool
  | .seq c, e => okE sc c e
  | .rng1 c, .Call (.Name x _) [a] [] _ => decide (x = "range") && isG sc x && okE sc c a
  | .rng2 c d, .Call (.Name x _) [a, b] [] _ => decide (x = "range") && isG sc x && okE sc c a && okE sc d b
  | .prs true es, .Call (.Name x _) [a, b] [] _ => decide (x = "zip") && isG sc x && isTup tg && okEs sc es [a, b]
  | .prs false es, .Call (.Name x _) [a] [] _ => decide (x = "enumerate") && isG sc x && isTup tg && okEs sc es [a]
  | _, _ => false
end
/-- whether a comprehension's value is stored within its frame -/
def swB (sc : Scope) : Expr → Str → Pos → Bool
  | .ListComp _ _ s p, t, py => decide (sc.names.lookup t = some .local) && py.line == p.line && !(s.names.any fun (n, k) => n == t && (k == .local || k == .cell))
  | _, _, _ => false

mutual
/-- the slots that a statement stores to -/
def asgd : CS → List Nat
  | .set t _ => slotsT t
  | .setLc i _ => [i]
  | .move i _ => [i]
  | .aug i _ _ => [i]
  | .ite _ a b => asgds a ++ asgds b
  | .for_ t _ b => slotsT t ++ asgds b
  | .while_ _ b => asgds b
  | .try_ b _ i x => asgds b ++ [i, x]
  | _ => []
def asgds : CSs → List Nat
  | .nil => []
  | .cons s ss => asgd s ++ asgds ss
end
def lockEs : CEs → List Nat
  | .nil => []
  | .cons (.var i) es => i :: lockEs es
  | .cons _ es => lockEs es
def lockI : CI → List Nat
  | .seq (.var i) => [i]
  | .prs _ es => lockEs es
  | _ => []
mutual
def okS (sc : Scope) (fb : Str → Bool) : CS → Stmt → Bool
  | .set (.name i) c, .Assign [.Name x py] e _ => isL N sc fb i x && okE P N sc c e && !swB sc e x py
  | .set (.tup ts) c, .Assign [.Tuple l k p] e _ => okT N sc fb (.tup ts) (.Tuple l k p) && okE P N sc c e && (match e with | .Tuple _ _ _ => false | _ => true)
  | .setLc i (.lc elt tg it cond own), .Assign [.Name x py] e _ => decide (N[i]? = some x) && decide (sc.names.lookup x = some .local) && okE P N sc (.lc elt tg it cond own) e && swB sc e x py
  | .move i j, .Assign [.Name x py] (.Name y _) _ => isL N sc fb i x && isV N sc j y && decide (i ≠ j)
  | .aug i o c, .AugAssign (.Name x _) op e _ => isL N sc fb i x && (decide (o = .add) && decide (op = .Add) || decide (o = .sub) && decide (op = .Sub)) && okE P N sc c e
  | .ite c a b, .If e l m _ => okE P N sc c e && okSs sc fb a l && okSs sc fb b m
  | .for_ t it b, .For tg e l [] _ => okT N sc fb t tg && okI P N sc tg it e && okSs sc fb b l && (lockI it).all fun i => decide (i ∉ slotsT t ++ asgds b)
  | .while_ c b, .While e l [] _ => okE P N sc c e && okSs sc fb b l
  | .ret c, .Return (some e) _ => okE P N sc c e
  | .ret (.cst .none), .Return none _ => true
  | .expr c, .Expr e _ => okE P N sc c e && !isLc e
  | .append i c, .Expr e _ => (match mthd N "append" i sc e with | some x => okE P N sc c x | none => false)
  | .extend i c, .Expr e _ => (match mthd N "extend" i sc e with | some x => okE P N sc c x | none => false)
  | .setItem i k c, .Assign [.Subscript (.Name x _) s _] e _ => isV N sc i x && okE P N sc k s && okE P N sc c e && !isSlice s
  | .pass, .Pass _ => true
  | .raise_ c f .nil, .Raise (some (.Call (.Name x _) [.Constant (.str _) _ _] [] _)) none _ => isG sc x && decide (P.excs.lookup x = some (c, "")) && decide (f = "")
  | .raise_ c f (.cons e .nil), .Raise (some (.Call (.Name x _) [a] [] _)) none _ => isG sc x && decide (P.excs.lookup x = some (c, f)) && decide (f ≠ "") && okE P N sc e a
  | .try_ b cs i y, .Try l [.ExceptHandler (some (.Name x _)) (some n) [.Assign [.Name z _] (.Name m _) _] _] [] [] _ => okSs sc fb b l && isG sc x && decide (P.clss.lookup x = some cs) && decide (N[i]? = some n) && decide (sc.names.lookup n = some .local) && decide (n = m) && isV N sc i m && isL N sc fb y z && decide (i ≠ y)
  | _, _ => false
def okSs (sc : Scope) (fb : Str → Bool) : CSs → List Stmt → Bool
  | .nil, [] => true
  | .cons s ss, x :: l => okS sc fb s x && okSs sc fb ss l
  | _, _ => false
end
end
end Ev
end

section
set_option Elab.async false
set_option linter.all false
set_option maxRecDepth 100000
set_option maxHeartbeats 4000000
/-! Errors that are held: isinstance, fields. -/
namespace PySem.W
open PySem.Calls PyProof.Rows
section
variable {prog : Program} {w : World} {A : Around} {E : Value → Shared → Prop} {s : Shared} {K : Frag} {x D : Addr} {ox od : Obj}
/-- e.__class__ of an error with a dict of its own -/
theorem class_of_err {Q : Option Value → Shared → Prop} (C : L2.ExcC K D) (X : K.In s.heap) (I : InstAt s.heap x ox D (some od)) (h : Q (some (.ref D)) { s with toks := s.toks + 1 }) :
    wpAny (model prog w) A (getAttr? (.ref x) "__class__") Q E s := by
  have isC : (clsIn K D).isSome = true := by
    obtain ⟨cd, e, _⟩ := any_some C.hd
    rw [e]; rfl
  have found := findObj_data (od := od) isC C.ha C.hn C.ht
  obtain ⟨hp, gs, dr, tk, so⟩ := s
  have l0 := I.type (M := model prog w)
  have l1 := looks_findIn (M := model prog w) X C.hg
  have l2 := looks_findIn (M := model prog w) X C.hk
  have l3 := looks_find (M := model prog w) X I found
  have isB : Looks (model prog w) hp (isInstance (.ref x) (.type "BaseException")) true := l0.andThen (looks_subIn X C.hs)
  have n2 : (Value.builtin "BaseException.__getattribute__" == Value.builtin "object.__getattribute__") = false := by decide +kernel
  have n1 : (onTheHeap (Value.ref D) && Value.builtin "BaseException.__getattribute__" == Value.builtin "object.__getattribute__") = false := by rw [n2]; rfl
  have n0 : (false && onTheHeap (Value.builtin "BaseException.__getattribute__")) = false := rfl
  unfold getAttr? getAttrBy? getAttrBy
  refine wpAny_bind (wpAny_mkText (wpAny_bind (wpAny_attempt (wpAny_holding (wpAny_bind (l0.at (wpAny_bind (l1.at ?_))))))))
  show wpAny _ _ (if (onTheHeap (Value.ref D) && Value.builtin "BaseException.__getattribute__" == Value.builtin "object.__getattribute__") = true then _ else _) _ _ _
  rw [n1, if_neg Bool.false_ne_true]
  unfold getAttrByItsOwn hookBefore
  refine wpAny_bind ?_
  rw [if_pos (show onTheHeap (Value.ref D) = true from rfl)]
  refine l2.at (wpAny_bind (wpAny_attempt (wpAny_holding ?_)))
  unfold callGetattribute
  rw [n0, if_neg Bool.false_ne_true]
  unfold boundAndCalled
  rw [PySem.F.excAttr_ValueError.ga.bind (.ref x)]
  refine wpAny_bind (wpAny_pure ?_)
  show wpAny _ _ (call (.builtin "BaseException.__getattribute__") [.ref x, .str "__class__" tk]) _ _ _
  refine wpAny_call (codeAny_call_builtin PySem.F.excAttr_ValueError.ga.plain PySem.F.entry_bexc_ga ?_)
  refine @check_slot (model prog w) _ _ ⟨hp, gs, dr, tk + 1, so⟩ "BaseException.__getattribute__" "BaseException" "__getattribute__" (.ref x) [.str "__class__" tk] [] _ (by decide +kernel) (by decide +kernel) isB (PySem.F.args_bexc_ga (.ref x) (.str "__class__" tk)) ?_
  unfold Builtin.«object.__getattribute__»
  refine wpAny_bind (wpAny_of_eq (a := ((Value.ref x : Value), [Value.str "__class__" tk])) (by first | rfl | (simp only [slotArgs]; rfl)) ?_)
  refine wpAny_bind (wpAny_pure (wpAny_bind (l0.at (wpAny_bind (l3.at ?_)))))
  show wpAny _ _ (holding [Value.builtin "object.__class__"] (call (.builtin "getset_descriptor.__get__") [.builtin "object.__class__", .ref x, .ref D]) >>= ret) _ _ _
  refine wpAny_bind (wpAny_holding (wpAny_call (class_get (s := ⟨hp, gs, dr, tk + 1, so⟩) (ox := ox) (od := some od) X I C.hm (wpAny_pure ?_))))
  show wpAny _ _ (handedOut (.ref D)) _ _ _
  rw [handedOut_of (v := .ref D) rfl]
  first
    | exact wpAny_pure (wpAny_pure h)
    | exact wpAny_pure h
    | exact wpAny_pure (wpAny_bind (wpAny_pure (wpAny_pure h)))
theorem kitx_err {o : Option Obj} (C : L2.ExcC K D) : KitX K (.ref x) (.ref D) (fun h => InstAt h x ox D o) := by
  have z := handS_kitx_exc (x := x) (ox := ox) C.hg C.hk C.hs C.hd C.ha C.hn C.ht C.hm
  cases o with
  | none => exact z
  | some od => exact
    { ty := fun _ _ _ I => I.type
      it := fun M h X I => by
        obtain ⟨cd, e, _⟩ := any_some C.hd
        unfold clsIn at e
        split at e
        · rename_i c' d' cd' sl' ho
          intro A' Q' E' s' k q
          unfold isType loadHead
          exact wpAny_bind (wpAny_loadPart (k _ _ (X _ _ ho)) (wpAny_pure q))
        · cases e
      ne := z.ne
      ca := fun X I k => class_of_err C X I k }
end
end PySem.W
namespace Ev
open PySem L2 PySem.Spec PyProof.Rows
variable [Errs]
section
variable {X : Cx} {pins : List (Addr × Obj)} {sg : L2.St} {H J : Hp} {s : Shared}
/-- an error that is held, as an instance -/
theorem err_at (I : L2.Inv X pins sg H s) (sm : Same J H) {v : V} {c : Nat} {fs : List (PyData × PyData)} (h : Sh X.K J v (.dict ((.none, .int c) :: fs))) :
    ∃ a oe od, v = .ref a ∧ c ∈ Errs.has ∧ PySem.W.InstAt s.heap a oe (Errs.ca c) od := by
  generalize e : PyData.dict ((.none, .int c) :: fs) = z at h
  cases h with
  | exc0 hn h =>
    rename_i a c'
    simp only [PyData.dict.injEq, List.cons.injEq, Prod.mk.injEq, true_and, PyData.int.injEq, Int.natCast_inj] at e
    obtain ⟨rfl, rfl⟩ := e
    obtain ⟨⟨oe, vs, h1, h2, h3⟩, _⟩ := (show ObjOk X.prog X.w H s.heap a (XO _ _ _) from I.hok a _ (sm _ _ h))
    exact ⟨a, oe, none, rfl, hn, h1, h2.1, by unfold PySem.W.notCls; rw [h3], by rw [h2.2]; trivial⟩
  | exc1 hn h k g =>
    rename_i a dd c' f v' x
    simp only [PyData.dict.injEq, List.cons.injEq, Prod.mk.injEq, true_and, PyData.int.injEq, Int.natCast_inj] at e
    obtain ⟨rfl, _⟩ := e
    obtain ⟨⟨oe, vs, h1, h2, h3⟩, _⟩ := (show ObjOk X.prog X.w H s.heap a (XO _ _ _) from I.hok a _ (sm _ _ h))
    obtain ⟨mA, hns, hr⟩ := (show ObjOk X.prog X.w H s.heap dd (.xd _) from I.hok dd _ (sm _ _ k))
    obtain ⟨od, ho, hl⟩ := lookIn_ns hns
    exact ⟨a, oe, some od, rfl, hn, h1, h2.1, by unfold PySem.W.notCls; rw [h3], by rw [h2.2]; exact ho⟩
  | _ => simp at e
end
def tys : List String := ["NoneType", "bool", "int", "str", "list", "tuple"]
/-- what is known of a class that stands in isinstance or except: cs: the errors that are of it -/
def ClsK (K : PySem.W.Frag) (cv : Value) (cs : List Nat) : Prop := (∀ c, c ∈ Errs.has → PySem.W.kitOne K (.ref (Errs.ca c)) cv = some (decide (c ∈ cs))) ∧ ∀ t ∈ tys, PySem.W.kitOne K (.type t) cv = some false
theorem any_cs (cs : List Nat) (c : Nat) : (cs.any fun k => decide ((k : Int) = (c : Int))) = decide (c ∈ cs) := by
  induction cs with
  | nil => rfl
  | cons a l ih =>
    rw [List.any_cons, ih]
    by_cases h : a = c
    · simp [h]
    · have h' : ¬ c = a := fun z => h z.symm
      simp [h, h', Int.natCast_inj]
/-- whether something is of a class, by what KitX tells -/
theorem isc_kit {X : Cx} {pins : List (Addr × Obj)} {sg : L2.St} {H J : Hp} {s : Shared} {x : V} {u : Value} {cs : List Nat} {d : PyData} {t : Slot} (hx : ∀ c, c ∈ Errs.has → ExcC X.K (Errs.ca c)) (I : L2.Inv X pins sg H s) (rx : RelV x u) (sm : Same J H) (vw : Vw X.K H J x d) (hp : pIsc cs [d] = some t) :
    ∃ (ty : Value) (P : Heap → Prop) (b : Bool), t = .sh (.bool b) ∧ PySem.W.KitX X.K u ty P ∧ P s.heap ∧ u ≠ .builtin "__main__.__loader__#opaque" ∧ ((∃ t', t' ∈ tys ∧ ty = .type t' ∧ b = false) ∨ ∃ c, c ∈ Errs.has ∧ ty = .ref (Errs.ca c) ∧ b = decide (c ∈ cs)) := by
  have plain : ∀ {t' : String}, tyN d = t' → t' ∈ tys → t = .sh (.bool false) → TyX X.K H x (.type (tyN d)) → ∃ (ty : Value) (P : Heap → Prop) (b : Bool), t = .sh (.bool b) ∧ PySem.W.KitX X.K u ty P ∧ P s.heap ∧ u ≠ .builtin "__main__.__loader__#opaque" ∧ ((∃ t', t' ∈ tys ∧ ty = .type t' ∧ b = false) ∨ ∃ c, c ∈ Errs.has ∧ ty = .ref (Errs.ca c) ∧ b = decide (c ∈ cs)) := by
    intro t' e1 e2 e3 h
    obtain ⟨P, Z, p, hne⟩ := kit_of I rx h
    exact ⟨_, P, false, e3, Z, p, hne, .inl ⟨t', e2, by rw [e1], rfl⟩⟩
  have tyOf : ∀ {b : Bool} {n : String}, tyD d n = some b → TyX X.K H x (.type (tyN d)) := fun h => vw.ty sm h
  unfold pIsc at hp
  split at hp
  · rename_i e; cases e; cases hp; exact plain rfl (by simp [tys, tyN]) rfl (tyOf (n := "int") rfl)
  · rename_i e; cases e; cases hp; exact plain rfl (by simp [tys, tyN]) rfl (tyOf (n := "int") rfl)
  · rename_i e; cases e; cases hp; exact plain rfl (by simp [tys, tyN]) rfl (tyOf (n := "int") rfl)
  · rename_i e; cases e; cases hp; exact plain rfl (by simp [tys, tyN]) rfl (tyOf (n := "str") rfl)
  · rename_i e; cases e; cases hp; exact plain rfl (by simp [tys, tyN]) rfl (tyOf (n := "list") rfl)
  · rename_i e; cases e; cases hp; exact plain rfl (by simp [tys, tyN]) rfl (tyOf (n := "tuple") rfl)
  · rename_i c fs e
    cases e
    cases hp
    rcases vw with h | ⟨_, _, _, _, e, _⟩ | ⟨_, _, _, _, _, e, _⟩
    · have hc : ∃ n : Nat, c = n := by
        generalize e : PyData.dict ((.none, .int c) :: fs) = z at h
        cases h <;> simp at e
        · exact ⟨_, e.1⟩
        · exact ⟨_, e.1⟩
      obtain ⟨n, rfl⟩ := hc
      obtain ⟨a, oe, od, rfl, hn, J'⟩ := err_at I sm h
      obtain rfl : u = Value.ref a := rx
      exact ⟨.ref (Errs.ca n), _, _, rfl, PySem.W.kitx_err (hx n hn), J', (fun z => nomatch z), .inr ⟨n, hn, rfl, any_cs cs n⟩⟩
    · cases e
    · cases e
  · cases hp
theorem pm_isc {X : Cx} {cv : Value} {cs : List Nat} (hx : ∀ c, c ∈ Errs.has → ExcC X.K (Errs.ca c)) (hc : ClsK X.K cv cs) : CallR X (.builtin "isinstance") (fun vs H Q => ∃ x c, vs = [x, c] ∧ ClsV c cv ∧ rPrim X.K (.isc cs) [x] H Q) := by
  intro pins s sg H vs us Q I rv h
  obtain ⟨x, c, rfl, k, J, ds, t, sm, vw, hp, q⟩ := h
  obtain ⟨u1, u2, rfl, r1, r2⟩ := vals2 rv
  have e2 := k.eq r2
  subst e2
  have hlen : ∃ d, ds = [d] := by
    cases vw with
    | cons a b => cases b; exact ⟨_, rfl⟩
  obtain ⟨d, rfl⟩ := hlen
  obtain ⟨ty, P, b, rfl, Z, p, hne, hb⟩ := isc_kit hx I r1 sm vw.one' hp
  have hk : PySem.W.kitOne X.K ty u2 = some b := by
    rcases hb with ⟨t', m, rfl, rfl⟩ | ⟨c, hn, rfl, rfl⟩
    · exact hc.2 t' m
    · exact hc.1 c hn
  exact PySem.W.kia_one Z I.kIn p hk hne fun tk => ⟨.bl b, H, I.tok tk, rfl, q.val sm (.bl b)⟩
/-- many classes -/
inductive ClsKs (K : PySem.W.Frag) : List V → List Value → List Nat → Prop
  | nil : ClsKs K [] [] []
  | cons {c : V} {cv : Value} {vs : List V} {us : List Value} {cs ds : List Nat} : ClsV c cv → ClsK K cv cs → ClsKs K vs us ds → ClsKs K (c :: vs) (cv :: us) (cs ++ ds)
theorem ClsKs.pair {K : PySem.W.Frag} : ∀ {vs : List V} {us : List Value} {cs : List Nat}, ClsKs K vs us cs → Paired ClsV vs us
  | _, _, _, .nil => .nil
  | _, _, _, .cons h _ k => .cons h k.pair
theorem ClsKs.own {K : PySem.W.Frag} {c : Nat} (hc : c ∈ Errs.has) : ∀ {vs : List V} {us : List Value} {cs : List Nat}, ClsKs K vs us cs → PySem.W.kitAny K (.ref (Errs.ca c)) us = some (decide (c ∈ cs))
  | _, _, _, .nil => by simp [PySem.W.kitAny]
  | _, _, _, .cons (cs := cs) (ds := ds) _ h k => by
    have ih := k.own hc
    have h1 := h.1 c hc
    unfold PySem.W.kitAny
    by_cases e : c ∈ cs
    · simp [h1, e]
    · simp [h1, e, ih]
theorem ClsKs.plain {K : PySem.W.Frag} {t : String} (ht : t ∈ tys) : ∀ {vs : List V} {us : List Value} {cs : List Nat}, ClsKs K vs us cs → PySem.W.kitAny K (.type t) us = some false
  | _, _, _, .nil => by simp [PySem.W.kitAny]
  | _, _, _, .cons _ h k => by
    have ih := k.plain ht
    have h1 := h.2 t ht
    unfold PySem.W.kitAny
    simp [h1, ih]
theorem pm_iscT {X : Cx} {cvs : List V} {us0 : List Value} {cs : List Nat} (hx : ∀ c, c ∈ Errs.has → ExcC X.K (Errs.ca c)) (hc : ClsKs X.K cvs us0 cs) : CallR X (.builtin "isinstance") (fun vs H Q => ∃ x tp, vs = [x, .ref tp] ∧ H tp = some (.tup cvs) ∧ rPrim X.K (.isc cs) [x] H Q) := by
  intro pins s sg H vs us Q I rv h
  obtain ⟨x, tp, rfl, hT, J, ds, t, sm, vw, hp, q⟩ := h
  obtain ⟨u1, u2, rfl, r1, r2⟩ := vals2 rv
  cases (show u2 = Value.ref tp from r2)
  have hlen : ∃ d, ds = [d] := by
    cases vw with
    | cons a b => cases b; exact ⟨_, rfl⟩
  obtain ⟨d, rfl⟩ := hlen
  obtain ⟨ty, P, b, rfl, Z, p, hne, hb⟩ := isc_kit hx I r1 sm vw.one' hp
  have hk : PySem.W.kitAny X.K ty us0 = some b := by
    rcases hb with ⟨t', m, rfl, rfl⟩ | ⟨c, hn, rfl, rfl⟩
    · exact hc.plain m
    · exact hc.own hn
  obtain ⟨_, its, rv2, o, h1, h2, n, h3⟩ := (show ObjOk X.prog X.w H s.heap tp (.tup cvs) from I.hok tp _ hT)
  have e3 := ClsV.all hc.pair rv2
  subst e3
  obtain ⟨oc, od, dt, sl⟩ := o
  simp only at h2 h3
  subst h2 h3
  exact PySem.W.kia_tup Z I.kIn p h1 hk hne fun tk => ⟨.bl b, H, I.tok tk, rfl, q.val sm (.bl b)⟩
theorem pFld_some {n : String} {ds : List PyData} {t : Slot} (h : pFld n ds = some t) : ∃ c fs y, ds = [.dict ((.none, .int c) :: fs)] ∧ fldD (Str.ofString n) fs = some y ∧ t = .sh y := by
  unfold pFld at h
  split at h
  · obtain ⟨y, hy, rfl⟩ := Option.map_eq_some_iff.mp h
    exact ⟨_, _, y, rfl, hy, rfl⟩
  · cases h
/-- a field of an error -/
theorem pe_errfld {X : Cx} {e : Expr} {te : TE} {pos : Pos} {n : String} (hx : ∀ c, c ∈ Errs.has → ExcC X.K (Errs.ca c)) (hno : ∀ c, c ∈ Errs.has → PySem.W.findIn X.K (.ref (Errs.ca c)) (Str.ofString n) = some none)
    (he : PE X e te) (hb : attributeBase e (Str.ofString n) X.env (eval e X.env) = eval e X.env) : PE X (.Attribute e (Str.ofString n) pos) (fun sg H Q => te sg H fun x H1 => rPrim X.K (.fld n) [x] H1 Q) := by
  refine ⟨fun pins s sg H Q I h => ?_⟩
  refine attr_of hb (thn (he.run pins s sg H _ I h) fun u s1 hh => ?_)
  obtain ⟨x, H1, I1, rx, J, ds, t, sm, vw, hp, q⟩ := hh
  obtain ⟨c, fs, y, rfl, hy, rfl⟩ := pFld_some (show pFld n ds = some t from hp)
  rcases vw.one' with h | ⟨_, _, _, _, e, _⟩ | ⟨_, _, _, _, _, e, _⟩
  · generalize ez : PyData.dict ((.none, .int c) :: fs) = z at h
    cases h with
    | exc0 hn h =>
      simp only [PyData.dict.injEq, List.cons.injEq, Prod.mk.injEq, true_and] at ez
      rw [ez.2] at hy
      cases hy
    | exc1 hn h k g =>
      rename_i a dd c' f v x
      simp only [PyData.dict.injEq, List.cons.injEq, Prod.mk.injEq, true_and] at ez
      rw [ez.2] at hy
      simp only [fldD] at hy
      split at hy
      · rename_i hf
        have hf := of_decide_eq_true hf
        subst hf
        cases hy
        obtain rfl : u = Value.ref a := rx
        obtain ⟨⟨oe, vs, h1, h2, h3⟩, _⟩ := (show ObjOk X.prog X.w H1 s1.heap a (XO _ _ _) from I1.hok a _ (sm _ _ h))
        obtain ⟨mA, hns, hr⟩ := (show ObjOk X.prog X.w H1 s1.heap dd (.xd _) from I1.hok dd _ (sm _ _ k))
        obtain ⟨od, ho, hl⟩ := lookIn_ns hns
        obtain ⟨uu, hu, ru⟩ := RelO.some_of (v := v) (o := mA (Str.ofString n)) (by have := hr (Str.ofString n); simpa using this)
        have J2 : PySem.W.InstAt s1.heap a oe (Errs.ca c') (some od) := ⟨h1, h2.1, by unfold PySem.W.notCls; rw [h3], by rw [h2.2]; exact ho⟩
        have C := hx c' hn
        exact HandSPX.exc_get I1.kIn J2 C.hg C.hk C.hs (PySem.W.findObj_own C.hd (hno c' hn) rfl (by rw [hl, hu])) (handed_of ru) ⟨v, H1, I1.tok _, ru, q.val sm g⟩
      · cases hy
    | _ => simp at ez
  · cases e
  · cases e
end Ev
end

section
set_option Elab.async false
set_option linter.all false
set_option maxRecDepth 100000
set_option maxHeartbeats 4000000
namespace L2
open PySem PySem.Spec PyProof.Rows
section
variable {X : Cx} {pins : List (Addr × Obj)} {σ : St} {H : Hp} {s : Shared}
theorem xo_ok {P : Program} {w : World} {H : Hp} {h : Heap} {a : Addr} {cls : Value} {d : Option Addr} {oe : Obj} {vs : Array Value} (e : h.get? a = some oe) (z : Zc cls d oe) (hd : oe.data = .fields vs) : ObjOk P w H h a (Ev.XO cls d a) :=
  ⟨⟨oe, vs, e, z, hd⟩, ⟨oe, e⟩, fun h1 h2 ⟨o, vs, e1, z1, d1⟩ k => ⟨o, vs, k o e1, z1, d1⟩⟩
/-- an object that came later than the entry is tracked from now on -/
theorem Inv.track {a : Addr} {o : HO} {oe : Obj} (I : Inv X pins σ H s) (hn : H a = none) (h0 : X.s_0.heap.get? a = none) (nL : a ≠ X.env.locals) (hc : ∀ v, oe.data ≠ .cell v) (he : s.heap.get? a = some oe) (hp : ∀ p ∈ X.pn ++ pins, p.1 ≠ a) (new : ObjOk X.prog X.w (upd H a o) s.heap a o) :
    Inv X pins σ (upd H a o) s where
  ok := I.ok
  os := I.os
  bare := I.bare
  base := by
    have b := I.base
    exact ⟨b.keep, b.slot, fun c u q n x => by rw [upd_ne (fun z => by rw [z, h0] at q; cases q)]; exact b.free c u q n x, b.there,
      fun c xs q => by rw [upd_ne (ne_of_none (b.tups c xs q) hn)]; exact b.tups c xs q,
      fun c u xs q => by rw [upd_ne (ne_of_none (b.frzs c u xs q) hn)]; exact b.frzs c u xs q,
      fun c ps q => by
        obtain ⟨more, m⟩ := b.tbls c ps q
        exact ⟨more, by rw [upd_ne (ne_of_none m hn)]; exact m⟩⟩
  loc := I.loc
  cell := I.cell
  free := by rw [upd_ne (fun z => nL z.symm)]; exact I.free
  freeC := fun x c q => by
    rw [upd_ne fun z => ?_]
    · exact I.freeC x c q
    · obtain ⟨v, hv⟩ := I.cell x c q
      rw [z] at hv
      obtain ⟨oc, e1, e2⟩ := hv
      rw [he] at e1
      cases e1
      exact hc _ e2
  pin := fun p q => by
    obtain ⟨p1, p2, p3⟩ := I.pin p q
    exact ⟨p1, by rw [upd_ne (hp p q)]; exact p2, p3⟩
  hok := I.hok.laidN (fun _ _ q => q) hn new
  len := I.len
end
/-- what the clause 'except x as n' wishes, the exception held behind it -/
def wAsK (K : PySem.W.Frag) (c : Value) (i : Nat) (ts : Addr → Value → Option Addr → TS) (Wout : WX) (D : Ends) : WX := fun cls d σ H =>
  ∃ b, PySem.W.exmOne K cls c = some b ∧ (b = true → ∀ a, H a = none → ts a cls d { nx := fun σ' H' => D.nx (σ'.set i none) (upd H' a (Ev.XO cls d a)), rt := D.rt, bk := fun σ' H' => D.bk (σ'.set i none) H', ct := fun σ' H' => D.ct (σ'.set i none) H' } (σ.set i (some (.ref a))) H) ∧
    (b = false → Wout cls d σ H)
section
variable {X : Cx} {x n : Str} {c : Value} {i : Nat} {body suite : List Stmt} {b₀ : Stmt} {np pos pos' : Pos} {tb : WX → TS} {ts : Addr → Value → Option Addr → TS} {Wout : WX}
theorem ps_try_keep (hs : X.stack = X.env :: X.outer) (hf : X.env.frame = some X.env.locals) (hex : X.ex = []) (hN : X.N.Nodup) (hi : X.N[i]? = some n) (hln : X.env.kindOf n = some .local) (hc : Names X x c) (tk : Takes X Wout)
    (hb : ∀ (W : WX) (pn : List (Addr × Obj)) (xe : Value → Shared → Prop), Takes (X.tr pn xe) W → PassesOwn (model X.prog X.w) X.A X.env xe → PSs (X.tr pn xe) body (tb W))
    (hsu : ∀ (a : Addr) (oe : Obj) (cls : Value) (d : Option Addr) (pn : List (Addr × Obj)), Zc cls d oe → (∃ vs, oe.data = .fields vs) → PSs (X.suite a ((a, oe) :: pn)) (b₀ :: suite) (ts a cls d)) :
    PS X (.Try body [.ExceptHandler (some (.Name x np)) (some n) (b₀ :: suite) pos'] [] [] pos) (fun D σ H => tb (wAsK X.K c i ts Wout D) D σ H) := by
  refine ⟨fun pins s σ H D I h => ?_⟩
  have ok := I.ok
  have hfr : X.A.frames = some (X.env :: X.outer) := by rw [ok.frames, hs]
  have hloc : Loc X.env.scope n := .inl hln
  refine wpAny_Try_except ?_
  refine wpAny_mono ((hb (wAsK X.K c i ts Wout D) (X.pn ++ pins) (fun e s₁ => wpAny (model X.prog X.w) X.A (noteFrame e X.env) (fun _ s₂ => wpAny (model X.prog X.w) X.A (setFlight e none) (fun _ s₃ =>
    wpAny (model X.prog X.w) X.A (handleBy e X.env [.ExceptHandler (some (.Name x np)) (some n) (b₀ :: suite) pos']) (SP X pins D) X.xe s₃) X.xe s₂) X.xe s₁) (fun u s' xx => ?_) PassesOwn.looking).run [] s σ H D (I.toTry _) h) (fun f s1 hsp => ?_) (fun e s1 he => he)
  · -- the catch
    obtain ⟨a, B, sI, pins', σ', H', cls, d, rfl, J', nb, up, sky, na, os, ag, b, hb1, hyes, hno⟩ := xx
    have J : Inv X pins σ' H' sI := J'.ofTry ok
    have sky' : Sky B (X.env :: X.outer) a (Zc cls d) X.env.locals s'.heap := by rw [← hs]; exact sky
    show wpAny (model X.prog X.w) X.A (noteFrame (.ref a) X.env) _ _ _
    refine Sky.land Zc.steady hfr hf sky' fun h3 fl3 up3 => ?_
    have J3 : Inv X pins σ' H' { s' with heap := h3 } := J.landed nb fl3.1 (up.trans up3) os ag
    obtain ⟨oe3, vs3, he3, hz3, hd3⟩ := fl3.there
    have notFr : ∀ {h : Heap} {o : Obj} {vs : Array Value}, h.FunFrames B (X.env :: X.outer) → h.get? a = some o → o.data = .fields vs → a ∉ frs (X.env :: X.outer) := fun {h o vs} ff e dd hm => by
      obtain ⟨_, o', e', hnf⟩ := ff.mem hm
      rw [e] at e'; cases e'
      exact hnf _ dd
    have nfr := notFr fl3.2.2.1 he3 hd3
    have nL : a ≠ X.env.locals := fun z => nfr (List.mem_filterMap.mpr ⟨X.env, List.mem_cons_self, by rw [hf, z]⟩)
    have nF : a ∉ X.fs := fun hm => by
      obtain ⟨e, he, q⟩ := List.mem_filterMap.mp hm
      exact nfr (List.mem_filterMap.mpr ⟨e, List.mem_cons_of_mem _ he, q⟩)
    have hI0 : sI.heap.get? a = none := by
      cases e0 : sI.heap.get? a with
      | none => rfl
      | some o0 =>
        have := nb a o0 e0 (by rw [hs]; exact nfr)
        rw [fl3.2.1] at this
        cases this
    have h0 : X.s_0.heap.get? a = none := by
      cases e0 : X.s_0.heap.get? a with
      | none => rfl
      | some o0 =>
        obtain ⟨o1, e1⟩ := J.base.there a o0 e0 (by rw [hex]; exact List.not_mem_nil)
        rw [hI0] at e1
        cases e1
    have hpn : ∀ p ∈ X.pn ++ pins, p.1 ≠ a := fun p hp z => by
      have := (J.pin p hp).1
      rw [z, hI0] at this
      cases this
    have S3 := J3.suite he3 hd3 na nL nF
    refine wpAny_handleBy_cons (codeAny_handlers_test ?_) (by intro q; cases q)
    have LT : PySem.W.Looks (model X.prog X.w) h3 (typeOf (.ref a)) cls := fun A Q E s k q => wpAny_typeOf_ref (k _ _ he3) (by rw [hz3.1]; exact q)
    have LM := PySem.W.exm_one (M := model X.prog X.w) (J3.kIn) LT hb1
    have test : ∀ {Q : Value → Shared → Prop} {E : Value → Shared → Prop}, Q c { s' with heap := h3 } → wpAny (model X.prog X.w) (X.A.mark (some (.ref a))) (eval (.Name x np) X.env) Q E { s' with heap := h3 } := fun {Q E} q => by
      obtain ⟨hg, hdbg, hm | ⟨hm, hv, hnn⟩⟩ := hc
      · exact ld_glob (X := X.suite a ((a, oe3) :: (X.pn ++ pins))) S3 hg hm q hdbg
      · exact ld_blt (X := X.suite a ((a, oe3) :: (X.pn ++ pins))) S3 hg hm hv q hnn hdbg
    refine test (LM.here ?_)
    cases b with
    | true =>
      refine codeAny_handlers_suite_as ?_
      refine HandSPX.lands_againZ fl3 fun h4 fl4 up4 => ?_
      have J4 : Inv X pins σ' H' { s' with heap := h4 } := J.landed nb fl4.1 ((up.trans up3).trans up4) os ag
      obtain ⟨oe4, vs4, he4, hz4, hd4⟩ := fl4.there
      have S4 := J4.suite he4 hd4 na nL nF
      refine store_ok (X := X.suite a ((a, oe4) :: (X.pn ++ pins))) (v := .ref a) S4 hN hi hloc rfl (fun s5 S5 => ?_) (.inr hln)
      refine wpAny_mono ((hsu a oe4 cls d (X.pn ++ pins) hz4 ⟨_, hd4⟩).run [] s5 _ H' _ S5 (hyes rfl a na)) (fun f s6 hsp => ?_) (fun _ _ z => False.elim z)
      have end_ : ∀ {σ6 : St} {H6 : Hp} {Q : Shared → Prop}, Inv (X.suite a ((a, oe4) :: (X.pn ++ pins))) [] σ6 H6 s6 → (∀ s7, Inv X pins (σ6.set i none) H6 s7 → Q s7) →
          wpAny (model X.prog X.w) X.A (do bindName X.env n .none; unbindBehindTheSuite X.env n pos') (fun _ s7 => Q s7) X.xe s6 := fun {σ6 H6 Q} S6 hq => gone_ok (S6.unsuite ok) hN hi hln hq
      cases f with
      | next =>
        obtain ⟨σ6, H6, S6, q6⟩ := hsp
        have p6 := S6.pin (a, oe4) (by simp)
        exact gone_ok ((S6.unsuite ok).track p6.2.1 h0 nL (fun v z => p6.2.2.2.2 v z) p6.1 hpn (xo_ok p6.1 hz4 hd4)) hN hi hln fun s7 J7 => ⟨_, _, J7, q6⟩
      | brk =>
        obtain ⟨σ6, H6, S6, q6⟩ := hsp
        exact end_ S6 fun s7 J7 => ⟨_, _, J7, q6⟩
      | cont =>
        obtain ⟨σ6, H6, S6, q6⟩ := hsp
        exact end_ S6 fun s7 J7 => ⟨_, _, J7, q6⟩
      | ret u =>
        obtain ⟨v6, σ6, H6, S6, r6, q6⟩ := hsp
        exact end_ S6 fun s7 J7 => ⟨_, _, _, J7, r6, q6⟩
    | false =>
      show wpAny _ X.A (handleBy (.ref a) X.env []) _ _ _
      refine wpAny_handleBy_nil ?_
      obtain ⟨k1, k2, k3, oe, vs, T, oT, ts', he, hz, hd, h1, hr⟩ := id fl3
      unfold PySem.passOn
      refine wpAny_bind (wpAny_field he hd h1 ?_)
      rw [if_neg (show ¬ ((Value.ref T == Value.none) = true) from by simp)]
      have fin : wpAny (model X.prog X.w) X.A (setFlight (.ref a) X.env.frame) (fun _ s4 => wpAny (model X.prog X.w) X.A (throw (.ref a) : Sem Flow) (SP X pins D) X.xe s4) X.xe { s' with heap := h3 } := by
        rw [hf]
        refine HandSPX.setFlight_upZ fl3 fun h4 hh4 up4 => wpAny_throw (tk _ _ ?_)
        exact ⟨a, B, sI, pins, σ', H', cls, d, rfl, J, nb, (up.trans up3).trans up4, .inr (.inr (by rw [hs]; exact hh4)), na, os, ag, hno rfl⟩
      first
        | exact wpAny_bind (wpAny_pure (wpAny_bind fin))
        | exact wpAny_bind fin
  · cases f with
    | next =>
      obtain ⟨σ', H', J', q⟩ := hsp
      exact wpAny_execs_nil ⟨σ', H', J'.ofTry ok, q⟩
    | brk =>
      obtain ⟨σ', H', J', q⟩ := hsp
      exact ⟨σ', H', J'.ofTry ok, q⟩
    | cont =>
      obtain ⟨σ', H', J', q⟩ := hsp
      exact ⟨σ', H', J'.ofTry ok, q⟩
    | ret u =>
      obtain ⟨v, σ', H', J', r, q⟩ := hsp
      exact ⟨v, σ', H', J'.ofTry ok, r, q⟩
end
end L2
end

section
set_option Elab.async false
set_option linter.all false
set_option maxRecDepth 100000
set_option maxHeartbeats 2000000
/-! Errors with a field: their __init__. -/
namespace Ev
open PySem PySem.Spec PyProof.Rows L2
/-- what the written part says of the own class over the built-in ones -/
structure BasC (K : PySem.W.Frag) (mg : Str → Option Value) (b : Str) (C : Addr) : Prop where
  mg : mg b = some (.ref C)
  rd : PySem.W.readsIn K C (.type "type") = true
  ini : PySem.W.findCls K (.ref C) (.type "type") "__init__" = some (.val (.builtin "ValueError.__init__"))
  ga : PySem.W.specialIn K (.ref C) "__getattribute__" = some (some (.builtin "type.__getattribute__"))
section
variable {X : Cx} {e : Expr} {es : List Expr} {ta : TA} {p1 p2 pos : Pos} {b : Str} {C0 : Addr}
/-- Base.__init__(self, ..) -/
theorem pe_basinit (B : BasC X.K X.mg b C0) (hg : Gl X b) (hd : (b == ("__debug__" : Str)) = false) (ha : PA X (e :: es) ta) (hl : (p2.endLine == pos.line) = true)
    (hfew : methodCallForm ((e :: es).length + ([] : List Keyword).length) (backTo pos (starEach (e :: es) X.env)) (backToKw pos (keywordEach [] X.env)) = true)
    (he : starEach (e :: es) X.env = (false, eval e X.env) :: starEach es X.env) (hpl : (backTo pos (starEach es X.env)).any (·.1) = false) :
    PE X (.Call (.Attribute (.Name b p1) "__init__" p2) (e :: es) [] pos) (tVeI X.K ta) where
  run := by
    intro pins s sg H Q I h
    rw [arm_eval_Call, show attributeBase (.Name b p1) "__init__" X.env (eval (.Name b p1) X.env) = eval (.Name b p1) X.env from rfl]
    refine wpAny_bind (ld_glob I hg B.mg (wpAny_bind (wpAny_standAt ?_)) hd)
    have hpos : methodCallPos true (.Name b p1) X.env p2 pos = pure pos := by unfold methodCallPos; simp [hl]
    unfold methodCall
    rw [hfew]
    refine wpAny_bind (wpAny_holding (PySem.W.method_cls I.kIn B.ga (PySem.W.cls_value I.kIn B.rd B.ini (by decide +kernel) (wpAny_bind (wpAny_of_eq hpos ?_)))))
    show wpAny _ _ (callWith pos (Value.builtin "ValueError.__init__") [] (backTo pos (starEach (e :: es) X.env)) []) _ _ _
    refine PyProof.Rows.callWith_method1 (thn (ha.run pos pins _ sg H _ (I.tok _) h) ?_) he hpl
    rintro us s1 ⟨vs, H1, I1, r1, a, C, ws, rfl, hl, T, ea, q⟩
    cases r1 with
    | @cons _ u0 _ ur ra rb =>
      obtain rfl : u0 = Value.ref a := ra
      exact oinit_ok T I1 ea (by rw [← Paired.length rb, sizeLine_eq]; omega) fun s' J => ⟨.non, H1, J, rfl, q⟩
end
/-- the text of such an __init__: f its field, b the class above -/
def iniForm (f b : Str) (sc : Scope) : List Stmt → Bool
  | [.Expr (.Call (.Attribute (.Name x _) m ap) [.Name y _, .Constant (.str _) _ _] [] cp) _, .Assign [.Attribute (.Name z _) g _] (.Name u _) _] =>
    decide (x = b) && decide (m = "__init__") && decide (y = "self") && decide (z = "self") && decide (g = f) && decide (u = f) && decide (sc.names.lookup b = some .globalImplicit) && decide (sc.names.lookup ("self" : Str) = some .local) && decide (sc.names.lookup f = some .local) &&
      !(b == ("__debug__" : Str)) && !(f == ("__debug__" : Str)) && !(f == ("__classdict__" : Str)) && (ap.endLine == cp.line)
  | _ => false
/-- a class's first statement -/
def clsStmt : Stmt → Stmt
  | .ClassDef _ _ _ (s :: _) .. => s
  | s => s
/-- what it promises -/
def spI (K : PySem.W.Frag) (f : Str) : Sp := fun vs H Q _ => ∃ (a C : Addr) (v : V), vs = [.ref a, v] ∧ OexC K C ∧ PySem.W.findIn K (.ref C) f = some none ∧ H a = some (exo a C none) ∧ ∀ dx, H dx = none → dx ≠ a → Q .non (upd (upd H dx (exd dx [(f, v)])) a (exo a C (some dx)))
section
variable {P : Program} {w : World} {K : PySem.W.Frag} {mg : Str → Option Value} {base : Heap}
theorem init_ok {qu f b : Str} {st : Stmt} {fI C0 : Addr} {fd : FuncData} (F : Fun K "__init__" qu st fI fd) (S : FnScope ["self", f] ["self", f] (defScope st)) (hf : iniForm f b (defScope st) (defBody st) = true) (B : BasC K mg b C0) : FnOk P w K mg base (L2.CX P w) 1 fI fd ["self", f] (spI K f) := by
  refine F.okX S (fun vs H Q E ⟨a, C, v, e, _⟩ => by rw [e]; rfl) (fun cv A ou s H vs Q E hr h => ?_)
  generalize hbd : defBody st = bd at hf
  unfold iniForm at hf
  split at hf
  · rename_i x p1 m p2 y p3 zz kk p4 p5 p6 z p7 g p8 u p9 p10
    simp only [Bool.and_eq_true, decide_eq_true_eq, Bool.not_eq_true'] at hf
    obtain ⟨⟨⟨⟨⟨⟨⟨⟨⟨⟨⟨⟨e1, e2⟩, e3⟩, e4⟩, e5⟩, e6⟩, h1⟩, h2⟩, h3⟩, h4⟩, h5⟩, h6⟩, h7⟩ := hf
    subst e1 e2 e3 e4 e5 e6
    let X : Cx := cxOf (L2.CX P w) P w K mg base ["self", u] qu (defScope st) fI cv A ou s H E
    have v0 : ∀ p : Pos, PE X (.Name "self" p) (tVar 0) := fun p => pe_var rfl (by show Vis (defScope st) "self"; unfold Vis; rw [h2]; simp)
    have v1 : ∀ p : Pos, PE X (.Name u p) (tVar 1) := fun p => pe_var rfl (by show Vis (defScope st) u; unfold Vis; rw [h3]; simp) h5 h6
    have c1 := pe_basinit (X := X) (p1 := p1) (p2 := p2) (pos := p5) B h1 h4 (pa_cons (v0 p3) (pa_cons (pe_str (X := X) (x := zz) (j := kk) (pos := p4)) pa_nil rfl) rfl) h7 rfl rfl rfl
    refine ⟨_, pss_cons (ps_expr c1) (pss_cons (ps_ost (v0 p7) (v1 p9) rfl) pss_nil), ?_⟩
    obtain ⟨a, C, v, rfl, T, hno, ea, q⟩ := h
    refine ⟨_, rfl, ?_⟩
    show ∃ (a1 C : Addr) (ws : List V), [V.ref a, V.str zz] = V.ref a1 :: ws ∧ ws.length ≤ 1000 ∧ OexC K C ∧ H a1 = some (exo a1 C none) ∧ tSeq (tOst K u (tVar 0) (tVar 1)) tNext { nx := fun _ H' => Q .non H', rt := Q } (L2.start ["self", u] [V.ref a, v]) H
    refine ⟨a, C, [V.str zz], rfl, (by show 1 ≤ 1000; decide), T, ea, _, rfl, _, rfl, a, C, rfl, T, hno, .inl ⟨ea, fun dx h1 h2 => q dx h1 h2⟩⟩
  · cases hf
end
end Ev
end

section
set_option maxHeartbeats 8000000
set_option Elab.async false
set_option linter.all false
set_option maxRecDepth 100000
/-! An error that is made, as a value. -/
namespace L2
open PySem PySem.Spec PyProof.Rows
theorem pe_mk {X : Cx} {e : Expr} {t : L2.St → Hp → XK → Prop} (h : PMk X e t) : PE X e (fun sg H Q => t sg H fun cls d H' => ∀ a, H' a = none → Q (.ref a) (upd H' a (Ev.XO cls d a))) := by
  refine ⟨fun pins s sg H Q I q => wpAny_mono (h pins s sg H _ I q) (fun u s' hu => ?_) fun _ _ z => z⟩
  obtain ⟨a, oe, vs, sI, H', cls, d, rfl, J, kG, ge, ha, hz, hd, h1, na, os, ag, r, q⟩ := hu
  refine ⟨.ref a, upd H' a (Ev.XO cls d a), ?_, rfl, q a na⟩
  exact J.call' (ch := []) os (Un.laidN kG ge na) (J.hok.laidN kG na (xo_ok ha hz hd)) ag (fun b z => absurd z List.not_mem_nil)
end L2
end

section
set_option Elab.async false
set_option linter.all false
set_option maxRecDepth 100000
set_option maxHeartbeats 4000000
namespace Ev
open PySem L2
variable [Errs]

/-! ### what a def keeps: its promise -/
def spF (K : PySem.W.Frag) (Ph : Ro → FR) : Sp := fun vs H Q E => ∃ J args fp, Wf K H J (vs.map some) args fp ∧ (match Ph args with
  | .ret s outs => ∀ v H' J' fp' g, Wf K H' J' (vs.map some) outs fp' → RepS K H' J' s v g → (∀ b ∈ g, J' b = none ∧ ¬ Own fp' b) → Step (Own fp) H J (fun b => Own fp' b ∨ b ∈ g) H' J' → Q v H'
  | .ex c fs outs => ∀ H' J' fp' cls d, Wf K H' J' (vs.map some) outs fp' → XRep K H' J' c fs cls d → Step (Own fp) H J (Own fp') H' J' → E cls d H'
  | .bad => False)

def bnames : List Str := ["len", "max", "min", "list", "tuple", "int", "range", "sorted", "isinstance", "bool", "str", "dict", "sum", "zip", "enumerate", "all", "any", "repr"]

/-- what is known of the errors' classes -/
structure ErrsOk (K : PySem.W.Frag) (mg : Str → Option Value) (tx : Tx) : Prop where
  ex : ∀ c, c ∈ Errs.has → ExcC K (Errs.ca c)
  fld : ∀ c, c ∈ Errs.has → ∀ f ∈ ["at", "part"], PySem.W.findIn K (.ref (Errs.ca c)) (Str.ofString f) = some none
  cl : ∀ x cs, tx.clss.lookup x = some cs → ∃ (v : V) (cv : Value), ClsV v cv ∧ RelV v cv ∧ (mg x = some cv ∨ (mg x = none ∧ bootBuiltins x = some cv ∧ x ≠ "__name__")) ∧ ClsK K cv cs ∧ ∀ c, c ∈ Errs.has → PySem.W.exmOne K (.ref (Errs.ca c)) cv = some (decide (c ∈ cs))
  rs : ∀ x c, tx.excs.lookup x = some (c, "") → c ∈ Errs.has ∧ mg x = some (.ref (Errs.ca c)) ∧ PySem.W.keepIn K (.ref (Errs.ca c)) = true ∧ PySem.W.excIn K (Errs.ca c) [.type "ValueError", .type "Exception", .type "BaseException", .type "object"] "ValueError.__new__" = true ∧
    PySem.W.subIn K (.ref (Errs.ca c)) (.type "BaseException") = some true ∧ PySem.W.typeIn K (.ref (Errs.ca c)) = some (.type "type")
  rf : ∀ x c f, tx.excs.lookup x = some (c, f) → f ≠ "" → c ∈ Errs.has ∧ mg x = some (.ref (Errs.ca c)) ∧ OexC K (Errs.ca c) ∧ PySem.W.findIn K (.ref (Errs.ca c)) (Str.ofString f) = some none ∧
    ∃ (fI C0 : Addr) (fd : FuncData) (qu : Str) (st : Stmt), PySem.W.findIn K (.ref (Errs.ca c)) "__init__" = some (some (.ref fI)) ∧ PySem.W.typeIn K (.ref fI) = some (.type "function") ∧ Fun K "__init__" qu st fI fd ∧
      FnScope ["self", Str.ofString f] ["self", Str.ofString f] (defScope st) ∧ iniForm (Str.ofString f) "LotError" (defScope st) (defBody st) = true ∧ BasC K mg "LotError" C0 ∧ Binds K fd ["self", Str.ofString f] []
/-- the context is as the text wants it -/
structure Good (P : Prg) (N : List Str) (k : Nat) (Phi : Nat → Ro → FR) (X : Cx) (sc : Scope) (fb : Str → Bool) : Prop where
  hN : X.N = N
  nd : N.Nodup
  hsc : X.env.scope = sc
  kd : sc.kind = .function
  hfb : X.fn = fb
  calm : X.calm = true
  room : Room (k + 2) X.A
  gd : X.A.guards = some []
  blt : ∀ x ∈ bnames, X.mg x = none
  fns : ∀ f x, P.tx.names[f]? = some x → ∃ a fd ps, FnG X.prog X.w X.K X.mg X.base (L2.CX X.prog X.w) (k + 2) a fd ps (spF X.K (Phi f)) ∧ X.mg x = some (.ref a) ∧ PySem.W.keepIn X.K (.ref a) = true ∧ Binds X.K fd ps []
  csts : ∀ x d, P.tx.consts.lookup x = some d → ∃ u, X.mg x = some u ∧ match d with | .int j => ∃ t, u = .int j t | .str j => ∃ t, u = .str j t | _ => True
  ers : ErrsOk X.K X.mg P.tx

section
variable {P : Prg} {N : List Str} {k : Nat} {Phi : Nat → Ro → FR} {X : Cx} {sc : Scope} {fb : Str → Bool}
theorem Good.blk (g : Good P N k Phi X sc fb) {s : Shared} {H : Hp} {scope : Scope} {cl : List (Str × Addr)} {C : Addr} {fp : List Addr} (hk : scope.kind = .function) :
    Good P N k Phi (X.blk s H scope (compEnvC scope cl C X.env) fp) (relS scope sc) (fun x => scope.names.lookup x == some .cell) where
  hN := g.hN
  nd := g.nd
  hsc := by rw [← g.hsc]; rfl
  kd := hk
  hfb := rfl
  calm := g.calm
  room := g.room
  gd := g.gd
  blt := g.blt
  fns := g.fns
  csts := g.csts
  ers := g.ers
theorem Good.tr (g : Good P N k Phi X sc fb) (pn : List (Addr × Obj)) (xe : Value → Shared → Prop) : Good P N k Phi (X.tr pn xe) sc fb where
  hN := g.hN
  nd := g.nd
  hsc := g.hsc
  kd := g.kd
  hfb := g.hfb
  calm := g.calm
  room := g.room
  gd := g.gd
  blt := g.blt
  fns := g.fns
  csts := g.csts
  ers := g.ers
theorem isV_ok (g : Good P N k Phi X sc fb) {i : Nat} {x : Str} {pos : Pos} (h : isV N sc i x = true) : PE X (.Name x pos) (tVar i) := by
  unfold isV at h
  simp only [Bool.and_eq_true, decide_eq_true_eq, Bool.not_eq_true'] at h
  obtain ⟨⟨⟨h1, h2⟩, h3⟩, h4⟩ := h
  refine pe_var (by rw [g.hN]; exact h1) ?_ h3 h4
  rw [g.hsc]
  unfold Vis
  split at h2 <;> first | (rename_i e; rw [e]; simp) | cases h2
theorem isG_ok (g : Good P N k Phi X sc fb) {x : Str} (h : isG sc x = true) : Gl X x ∧ (x == ("__debug__" : Str)) = false := by
  unfold isG at h
  simp only [Bool.and_eq_true, Bool.not_eq_true'] at h
  refine ⟨?_, h.2⟩
  have h1 := h.1
  split at h1
  · rename_i e
    show X.env.scope.names.lookup x = some .globalImplicit
    rw [g.hsc]; exact e
  · cases h1
theorem isL_ok (g : Good P N k Phi X sc fb) {i : Nat} {x : Str} {pos : Pos} (h : isL N sc fb i x = true) : X.N[i]? = some x ∧ Loc X.env.scope x ∧ (X.fn x = true ∨ X.env.scope.names.lookup x = some .local) := by
  unfold isL at h
  simp only [Bool.and_eq_true, decide_eq_true_eq] at h
  obtain ⟨h1, h2⟩ := h
  refine ⟨by rw [g.hN]; exact h1, ?_⟩
  rw [g.hsc, g.hfb]
  unfold L2.Loc
  split at h2
  · rename_i e; rw [e]; simp
  · rename_i e; rw [e]; simp; exact h2
  · cases h2
theorem star_ok {e : Expr} {es : List Expr} {env : Env} (h : isStar e = false) : starEach (e :: es) env = (false, eval e env) :: starEach es env := by
  cases e <;> first | rfl | (simp [isStar] at h)
theorem okE_star {c : CE} {e : Expr} (h : okE P.tx N sc c e = true) : isStar e = false := by
  cases e <;> first | rfl | (cases c <;> simp [okE, opForm, mthd, badE] at h)
theorem okEs_star : ∀ {cs : CEs} {es : List Expr}, okEs P.tx N sc cs es = true → ∀ e ∈ es, isStar e = false
  | .nil, [], _, e, q => nomatch q
  | .nil, _ :: _, h, _, _ => by simp [okEs] at h
  | .cons _ _, [], h, _, _ => by simp [okEs] at h
  | .cons c cs, e :: es, h, x, q => by
    simp only [okEs, Bool.and_eq_true] at h
    rcases List.mem_cons.mp q with z | z
    · rw [z]; exact okE_star h.1
    · exact okEs_star h.2 x z
theorem plain_ok {pos : Pos} {env : Env} : ∀ {es : List Expr}, (∀ e ∈ es, isStar e = false) → (backTo pos (starEach es env)).any (·.1) = false
  | [], _ => rfl
  | e :: es, h => by
    rw [star_ok (h e (List.mem_cons_self ..))]
    have ih := plain_ok (pos := pos) (env := env) (es := es) fun x q => h x (List.mem_cons_of_mem _ q)
    unfold backTo at ih ⊢
    rw [List.map_cons, List.any_cons, ih]
    rfl
theorem okEs_len : ∀ {cs : CEs} {es : List Expr}, okEs P.tx N sc cs es = true → es.length = cs.len
  | .nil, [], _ => rfl
  | .nil, _ :: _, h => by simp [okEs] at h
  | .cons _ _, [], h => by simp [okEs] at h
  | .cons c cs, e :: es, h => by
    simp only [okEs, Bool.and_eq_true] at h
    rw [List.length_cons, okEs_len h.2, CEs.len]
theorem many_len {f1 : CE → Ro → R Od} : ∀ {cs : CEs} {r : Ro} {x : List Od} {r1 : Ro}, many f1 cs r = .ok x r1 → x.length = cs.len
  | .nil, r, x, r1, h => by simp only [many] at h; cases h; rfl
  | .cons c cs, r, x, r1, h => by
    simp only [many] at h
    cases e : f1 c r with
    | bad => rw [e] at h; cases h
    | ex _ _ _ => rw [e] at h; cases h
    | ok a q =>
      rw [e] at h
      simp only [R.bind] at h
      cases e2 : many f1 cs q with
      | bad => rw [e2] at h; cases h
      | ex _ _ _ => rw [e2] at h; cases h
      | ok b q2 =>
        rw [e2] at h
        cases h
        rw [List.length_cons, many_len e2, CEs.len]
end

section
variable {K : PySem.W.Frag} {W : WX} {sg : St} {H J H1 J1 : Hp} {fp fp1 : Nat → List Addr} {Phi : Nat → Ro → FR}
theorem it1_da : ∀ {cs : CEs} {r : Ro} {x : List Od} {r1 : Ro}, many (it1 Phi) cs r = .ok x r1 → ∀ p ∈ x, ∃ d, p = .da d
  | .nil, r, x, r1, h => by simp only [many] at h; cases h; exact fun p q => nomatch q
  | .cons c cs, r, x, r1, h => by
    simp only [many, it1, R.bind_bind] at h
    cases e : (ev Phi c r).sh with
    | bad => rw [e] at h; cases h
    | ex _ _ _ => rw [e] at h; cases h
    | ok a q =>
      rw [e] at h
      simp only [R.bind] at h
      cases e2 : many (it1 Phi) cs q with
      | bad => rw [e2] at h; cases h
      | ex _ _ _ => rw [e2] at h; cases h
      | ok b q2 =>
        rw [e2] at h
        cases h
        intro p hp
        rcases List.mem_cons.mp hp with z | z
        · exact ⟨_, z⟩
        · exact it1_da e2 p z
theorem Ods.shared : ∀ {x : List Od} {vs : List V} {gs : List Addr}, Ods K H J fp sg x vs gs → (∀ p ∈ x, ∃ d, p = .da d) → gs = [] ∧ ShAll K J vs (dasOf x)
  | _, _, _, .nil, _ => ⟨rfl, .nil⟩
  | _, _, _, .cons (o := o) h _ k, n => by
    obtain ⟨d, rfl⟩ := n _ (List.mem_cons_self ..)
    obtain ⟨e1, e2⟩ := k.shared fun p q => n p (List.mem_cons_of_mem _ q)
    obtain ⟨h1, h2⟩ := h
    rw [e1, h1]
    exact ⟨rfl, .cons h2 e2⟩
/-- operands that are read own nothing -/
theorem rd1_plain : ∀ {cs : CEs} {r : Ro} {x : List Od} {r1 : Ro}, many (rd1 Phi) cs r = .ok x r1 → ∀ p ∈ x, (∃ i, p = .pl i) ∨ ∃ d, p = .da d
  | .nil, r, x, r1, h => by simp only [many] at h; cases h; exact fun p q => nomatch q
  | .cons c cs, r, x, r1, h => by
    simp only [many] at h
    cases e : rd1 Phi c r with
    | bad => rw [e] at h; cases h
    | ex _ _ _ => rw [e] at h; cases h
    | ok a q =>
      rw [e] at h
      simp only [R.bind] at h
      cases e2 : many (rd1 Phi) cs q with
      | bad => rw [e2] at h; cases h
      | ex _ _ _ => rw [e2] at h; cases h
      | ok b q2 =>
        rw [e2] at h
        cases h
        intro p hp
        rcases List.mem_cons.mp hp with z | z
        · subst z
          cases c <;> simp only [rd1] at e <;> first | (split at e <;> cases e; exact .inl ⟨_, rfl⟩) | (generalize (ev Phi _ r).sh = zz at e; cases zz <;> simp only [R.bind] at e <;> cases e; exact .inr ⟨_, rfl⟩)
        · exact rd1_plain e2 p z
theorem Ods.plain : ∀ {x : List Od} {vs : List V} {gs : List Addr}, Ods K H J fp sg x vs gs → (∀ p ∈ x, (∃ i, p = .pl i) ∨ ∃ d, p = .da d) → gs = []
  | _, _, _, .nil, _ => rfl
  | _, _, _, .cons (o := o) h _ k, n => by
    have e := k.plain fun p q => n p (List.mem_cons_of_mem _ q)
    rw [e]
    rcases n _ (List.mem_cons_self ..) with ⟨i, rfl⟩ | ⟨d, rfl⟩
    · rw [h.1]; rfl
    · rw [h.1]; rfl
/-- an operation behind its operands -/
theorem op_readR {o : Op} {es : CEs} {Q : V → Hp → Prop} {RR : List V → Hp → Prop} (h : tEv K W Phi (.op o es) sg H Q) (hR : ∀ vs H2, rPrim K o vs H2 Q → RR vs H2) : seqOpd K W (rd1 Phi) es sg H RR := by
  obtain ⟨J, r, fp, w, f⟩ := h
  refine seqOpd_of es w ?_
  simp only [ev, rds_many] at f
  cases e : many (rd1 Phi) es r with
  | bad => rw [e] at f; exact f
  | ex c fs r1 => rw [e] at f; exact f
  | ok x r1 =>
    rw [e] at f
    simp only [R.bind] at f
    intro vs H1 J1 fp1 gs w1 o1 t1
    obtain rfl := o1.plain (rd1_plain e)
    cases er : rdOs r1 x with
    | none => rw [er] at f; exact f.elim
    | some ds =>
      rw [er] at f
      simp only at f
      cases ep : prim o ds with
      | none => rw [ep] at f; exact f.elim
      | some s =>
        rw [ep] at f
        refine hR _ _ ⟨J1, _, s, w1.same, o1.views w1 er, ep, fun v H2 J2 g q n st sm => ?_⟩
        refine f v H2 J2 fp1 g (w1.step st sm fun a _ z => z) q (fun b z => ⟨(n b z).1, fun y => ?_⟩) ((step_nil t1).trans ?_)
        · obtain ⟨j, y⟩ := y
          obtain ⟨_, o, ho⟩ := w1.jn j b y
          rw [(n b z).2] at ho
          cases ho
        · refine ⟨st.js, fun b o q _ => st.fr b o q id, fun b q => ?_, fun b q => (st.jg b q).imp id fun z => z.imp False.elim id⟩
          rcases q with q | q
          · exact .inl q
          · exact (st.fn b q).imp False.elim id
theorem op_read {o : Op} {es : CEs} {Q : V → Hp → Prop} (h : tEv K W Phi (.op o es) sg H Q) : seqOpd K W (rd1 Phi) es sg H fun vs H2 => rPrim K o vs H2 Q := op_readR h fun _ _ q => q
end
end Ev
end

section
set_option Elab.async false
set_option linter.all false
set_option maxRecDepth 100000
set_option maxHeartbeats 4000000
namespace Ev
open PySem L2
variable [Errs]

/-! ### targets -/
mutual
def tT (K : PySem.W.Frag) : CT → TG
  | .name i => gName i
  | .tup ts => gTup K ts.len (tTs K ts)
def tTs (K : PySem.W.Frag) : CTs → TGs
  | .nil => gNil
  | .cons t ts => gCons (tT K t) (tTs K ts)
end
section
variable {P : Prg} {N : List Str} {k : Nat} {Phi : Nat → Ro → FR} {X : Cx} {sc : Scope} {fb : Str → Bool}
theorem okTs_len : ∀ {ts : CTs} {l : List Expr}, okTs N sc fb ts l = true → l.length = ts.len
  | .nil, [], _ => rfl
  | .nil, _ :: _, h => by simp [okTs] at h
  | .cons _ _, [], h => by simp [okTs] at h
  | .cons t ts, e :: l, h => by
    simp only [okTs, Bool.and_eq_true] at h
    rw [List.length_cons, okTs_len h.2, CTs.len]
theorem okT_star {t : CT} {e : Expr} (h : okT N sc fb t e = true) : isStar e = false := by
  cases e <;> first | rfl | (cases t <;> simp [okT] at h)
theorem asgE_ok {e : Expr} {l : List Expr} {env : Env} (h : isStar e = false) : assignEach (e :: l) env = (false, assign e env) :: assignEach l env := by
  cases e <;> first | rfl | (simp [isStar] at h)
theorem okTs_stars : ∀ {ts : CTs} {l : List Expr} {env : Env}, okTs N sc fb ts l = true → (assignEach l env).length = ts.len ∧ (assignEach l env).findIdx? (·.1) = none
  | .nil, [], _, _ => ⟨rfl, rfl⟩
  | .nil, _ :: _, _, h => by simp [okTs] at h
  | .cons _ _, [], _, h => by simp [okTs] at h
  | .cons t ts, e :: l, env, h => by
    simp only [okTs, Bool.and_eq_true] at h
    obtain ⟨a, b⟩ := okTs_stars (env := env) h.2
    rw [asgE_ok (okT_star h.1)]
    refine ⟨by rw [List.length_cons, a, CTs.len], ?_⟩
    rw [List.findIdx?_cons]
    simp [b]
mutual
theorem soundT : ∀ {t : CT} {e : Expr}, Good P N k Phi X sc fb → okT N sc fb t e = true → PG X e (tT X.K t)
  | .name i, .Name x p, g, h => by
    simp only [okT] at h
    obtain ⟨h1, h2, h3⟩ := isL_ok (pos := p) g h
    exact pg_name (by rw [g.hN]; exact g.nd) h1 h2 h3
  | .tup ts, .Tuple l kk p, g, h => by
    simp only [okT] at h
    have q := soundTs g h
    obtain ⟨a, b⟩ := okTs_stars (env := X.env) h
    exact pg_tup g.calm q a b
theorem soundTs : ∀ {ts : CTs} {l : List Expr}, Good P N k Phi X sc fb → okTs N sc fb ts l = true → PGs X l (tTs X.K ts)
  | .nil, [], g, h => pgs_nil
  | .cons t ts, e :: l, g, h => by
    simp only [okTs, Bool.and_eq_true] at h
    exact pgs_cons (soundT g h.1) (soundTs g h.2) (by rw [asgE_ok (okT_star h.1)]; rfl)
end
end

/-- the slots outside of some are the same -/
def Agree (vs : List Nat) (sg sg' : St) : Prop := sg'.length = sg.length ∧ ∀ i, i ∉ vs → sg'[i]? = sg[i]?
theorem Agree.refl {vs : List Nat} {sg : St} : Agree vs sg sg := ⟨rfl, fun _ _ => rfl⟩
theorem Agree.trans {vs : List Nat} {a b c : St} (h : Agree vs a b) (k : Agree vs b c) : Agree vs a c := ⟨k.1.trans h.1, fun i n => (k.2 i n).trans (h.2 i n)⟩
theorem Agree.mono {vs ws : List Nat} {a b : St} (h : Agree vs a b) (m : ∀ i ∈ vs, i ∈ ws) : Agree ws a b := ⟨h.1, fun i n => h.2 i fun q => n (m i q)⟩
theorem Agree.set {vs : List Nat} {sg : St} {i : Nat} {o : Option V} (h : i ∈ vs) : Agree vs sg (sg.set i o) := ⟨List.length_set, fun j n => List.getElem?_set_ne fun e => n (by rw [← e]; exact h)⟩
section
variable {K : PySem.W.Frag} {H J : Hp}
theorem Wf.putSh {sg : St} {r : Ro} {fp : Nat → List Addr} {i : Nat} {v : V} {d : PyData} (w : Wf K H J sg r fp) (hi : i < r.length) (h : Sh K J v d) : Wf K H J (sg.set i (some v)) (r.set i (.sh d)) (fpSet fp i []) :=
  w.put (g := []) hi ⟨rfl, h⟩ fun b q => nomatch q
mutual
theorem asg_ok : ∀ {t : CT} {d : PyData} {v : V} {sg : St} {r r' : Ro} {fp : Nat → List Addr} {Q : St → Hp → Prop}, asg t d r = some r' → Wf K H J sg r fp → Sh K J v d →
    (∀ sg' fp', Wf K H J sg' r' fp' → (∀ b, Own fp' b → Own fp b) → Agree (slotsT t) sg sg' → Q sg' H) → tT K t v sg H Q
  | .name i, d, v, sg, r, r', fp, Q, e, w, h, q => by
    simp only [asg, asgN] at e
    split at e
    · rename_i hi
      cases e
      exact q _ _ (w.putSh (of_decide_eq_true hi) h) (fun b z => own_wipe z) (.set (by simp [slotsT]))
    · cases e
  | .tup ts, .tuple ds, v, sg, r, r', fp, Q, e, w, h, q => by
    simp only [asg] at e
    cases h with
    | tup h1 h2 =>
      rename_i a xs
      refine ⟨a, xs, rfl, .of (w.same _ _ h1), ?_, asgs_ok e w h2 fun sg' fp' w' o' a' => q sg' fp' w' o' (by simpa only [slotsT] using a')⟩
      rw [shsLen h2]
      exact asgs_len e
  | .tup ts, .none, _, _, _, _, _, _, e, _, _, _ => by simp [asg] at e
  | .tup ts, .bool _, _, _, _, _, _, _, e, _, _, _ => by simp [asg] at e
  | .tup ts, .int _, _, _, _, _, _, _, e, _, _, _ => by simp [asg] at e
  | .tup ts, .str _, _, _, _, _, _, _, e, _, _, _ => by simp [asg] at e
  | .tup ts, .list _, _, _, _, _, _, _, e, _, _, _ => by simp [asg] at e
  | .tup ts, .dict _, _, _, _, _, _, _, e, _, _, _ => by simp [asg] at e
theorem asgs_ok : ∀ {ts : CTs} {ds : List PyData} {vs : List V} {sg : St} {r r' : Ro} {fp : Nat → List Addr} {Q : St → Hp → Prop}, asgs ts ds r = some r' → Wf K H J sg r fp → ShAll K J vs ds →
    (∀ sg' fp', Wf K H J sg' r' fp' → (∀ b, Own fp' b → Own fp b) → Agree (slotsTs ts) sg sg' → Q sg' H) → tTs K ts vs sg H Q
  | .nil, [], vs, sg, r, r', fp, Q, e, w, h, q => by
    simp only [asgs] at e
    cases e
    cases h
    exact ⟨rfl, q _ _ w (fun _ z => z) .refl⟩
  | .nil, _ :: _, _, _, _, _, _, _, e, _, _, _ => by simp [asgs] at e
  | .cons t ts, [], _, _, _, _, _, _, e, _, _, _ => by simp [asgs] at e
  | .cons t ts, d :: ds, vs, sg, r, r', fp, Q, e, w, h, q => by
    simp only [asgs] at e
    cases h with
    | cons h1 h2 =>
      rename_i v vs
      cases e1 : asg t d r with
      | none => rw [e1] at e; cases e
      | some r1 =>
        rw [e1] at e
        refine ⟨v, vs, rfl, asg_ok e1 w h1 fun sg1 fp1 w1 o1 a1 => asgs_ok e w1 h2 fun sg2 fp2 w2 o2 a2 => q sg2 fp2 w2 (fun b z => o1 b (o2 b z)) ?_⟩
        simp only [slotsTs]
        exact (a1.mono fun i z => List.mem_append.mpr (.inl z)).trans (a2.mono fun i z => List.mem_append.mpr (.inr z))
theorem asgs_len : ∀ {ts : CTs} {ds : List PyData} {r r' : Ro}, asgs ts ds r = some r' → ds.length = ts.len
  | .nil, [], _, _, _ => rfl
  | .nil, _ :: _, _, _, e => by simp [asgs] at e
  | .cons t ts, [], _, _, e => by simp [asgs] at e
  | .cons t ts, d :: ds, r, r', e => by
    simp only [asgs] at e
    cases e1 : asg t d r with
    | none => rw [e1] at e; cases e
    | some r1 =>
      rw [e1] at e
      rw [List.length_cons, asgs_len e, CTs.len]
end
end
end Ev
end

section
set_option Elab.async false
set_option linter.all false
set_option maxRecDepth 100000
set_option maxHeartbeats 4000000
namespace Ev
open PySem L2
variable [Errs]

/-! ### a block's own slots -/
theorem wipeR_len (r : Ro) : ∀ vs : List Nat, (wipeR r vs).length = r.length
  | [] => rfl
  | v :: vs => by unfold wipeR; rw [List.length_set, wipeR_len r vs]
theorem wipeR_in {r : Ro} {j : Nat} : ∀ {vs : List Nat}, j ∈ vs → (wipeR r vs)[j]? = none ∨ (wipeR r vs)[j]? = some .non
  | [], h => nomatch h
  | v :: vs, h => by
    unfold wipeR
    by_cases e : v = j
    · subst e
      by_cases hl : v < (wipeR r vs).length
      · rw [List.getElem?_set_self hl]; exact .inr rfl
      · exact .inl (List.getElem?_eq_none (by simpa using hl))
    · rw [List.getElem?_set_ne e]
      exact wipeR_in ((List.mem_cons.mp h).elim (fun z => absurd z.symm e) id)
theorem wipeR_out {r : Ro} {j : Nat} : ∀ {vs : List Nat}, j ∉ vs → (wipeR r vs)[j]? = r[j]?
  | [], _ => rfl
  | v :: vs, h => by
    unfold wipeR
    rw [List.getElem?_set_ne fun e => h (by rw [e]; exact List.mem_cons_self ..)]
    exact wipeR_out fun z => h (List.mem_cons_of_mem _ z)
theorem wipe_out' {sg : St} {j : Nat} {vs : List Nat} (h : j ∉ vs) : (wipe sg vs)[j]? = sg[j]? := wipe_out h
theorem wipe_in {sg : St} {j : Nat} : ∀ {vs : List Nat}, j ∈ vs → (wipe sg vs)[j]? = none ∨ (wipe sg vs)[j]? = some none
  | [], h => nomatch h
  | v :: vs, h => by
    unfold wipe
    by_cases e : v = j
    · subst e
      by_cases hl : v < (wipe sg vs).length
      · rw [List.getElem?_set_self hl]; exact .inr rfl
      · exact .inl (List.getElem?_eq_none (by simpa using hl))
    · rw [List.getElem?_set_ne e]
      exact wipe_in ((List.mem_cons.mp h).elim (fun z => absurd z.symm e) id)
theorem agree_wipe {sg sg' : St} {vs : List Nat} (h : Agree vs (wipe sg vs) sg') : wipe sg' vs = wipe sg vs := by
  apply List.ext_getElem?
  intro j
  by_cases hj : j ∈ vs
  · have l1 : (wipe sg' vs).length = (wipe sg vs).length := by rw [wipe_length, h.1]
    rcases wipe_in (sg := sg') hj with a | a <;> rcases wipe_in (sg := sg) hj with b | b
    · rw [a, b]
    · rw [List.getElem?_eq_none_iff] at a
      have := (List.getElem?_eq_some_iff.mp b).1
      omega
    · rw [List.getElem?_eq_none_iff] at b
      have := (List.getElem?_eq_some_iff.mp a).1
      omega
    · rw [a, b]
  · rw [wipe_out hj, h.2 j hj]
theorem backR_len (r0 r : Ro) : ∀ vs : List Nat, (backR r0 r vs).length = r.length
  | [] => rfl
  | v :: vs => by
    unfold backR
    split
    · rw [List.length_set, backR_len r0 r vs]
    · exact backR_len r0 r vs
theorem backR_out {r0 r : Ro} {j : Nat} : ∀ {vs : List Nat}, j ∉ vs → (backR r0 r vs)[j]? = r[j]?
  | [], _ => rfl
  | v :: vs, h => by
    have ih := backR_out (r0 := r0) (r := r) (j := j) (vs := vs) fun z => h (List.mem_cons_of_mem _ z)
    unfold backR
    split
    · rw [List.getElem?_set_ne fun e => h (by rw [e]; exact List.mem_cons_self ..)]; exact ih
    · exact ih
theorem backR_in {r0 r : Ro} {j : Nat} (hl : r0.length = r.length) : ∀ {vs : List Nat}, j ∈ vs → (backR r0 r vs)[j]? = r0[j]?
  | [], h => nomatch h
  | v :: vs, h => by
    have lb := backR_len r0 r vs
    unfold backR
    by_cases e : v = j
    · subst e
      split
      · rename_i s hs
        have := (List.getElem?_eq_some_iff.mp hs).1
        rw [List.getElem?_set_self (by omega), hs]
      · rename_i hs
        rw [hs, List.getElem?_eq_none_iff, lb, ← hl]
        exact List.getElem?_eq_none_iff.mp hs
    · have ih := backR_in (r0 := r0) (r := r) (j := j) hl (vs := vs) ((List.mem_cons.mp h).elim (fun z => absurd z.symm e) id)
      split
      · rw [List.getElem?_set_ne e]; exact ih
      · exact ih

section
variable {K : PySem.W.Frag} {H J H1 J1 : Hp} {sg sg1 : St} {r r1 : Ro} {fp fp1 : Nat → List Addr}
def fpW (fp : Nat → List Addr) (vs : List Nat) : Nat → List Addr := fun j => if j ∈ vs then [] else fp j
theorem fpW_in {vs : List Nat} {j : Nat} (h : j ∈ vs) : fpW fp vs j = [] := by unfold fpW; rw [if_pos h]
theorem fpW_out {vs : List Nat} {j : Nat} (h : j ∉ vs) : fpW fp vs j = fp j := by unfold fpW; rw [if_neg h]
theorem fpW_own {vs : List Nat} {b : Addr} (h : Own (fpW fp vs) b) : Own fp b := by
  obtain ⟨j, q⟩ := h
  by_cases hj : j ∈ vs
  · rw [fpW_in hj] at q; cases q
  · rw [fpW_out hj] at q; exact ⟨j, q⟩
theorem Wf.wipe (w : Wf K H J sg r fp) (vs : List Nat) : Wf K H J (L2.wipe sg vs) (wipeR r vs) (fpW fp vs) where
  same := w.same
  len := by rw [wipe_length, wipeR_len]; exact w.len
  rep := fun j s e ne => by
    by_cases hj : j ∈ vs
    · rcases wipeR_in (r := r) hj with z | z
      · rw [z] at e; cases e
      · rw [z] at e; cases e; exact absurd rfl ne
    · rw [wipeR_out hj] at e
      rw [wipe_out hj, fpW_out hj]
      exact w.rep j s e ne
  emp := fun j e => by
    by_cases hj : j ∈ vs
    · exact fpW_in hj
    · rw [wipeR_out hj] at e
      rw [fpW_out hj]
      exact w.emp j e
  dis := fun i j a h1 h2 => by
    by_cases hi : i ∈ vs
    · rw [fpW_in hi] at h1; cases h1
    · by_cases hj : j ∈ vs
      · rw [fpW_in hj] at h2; cases h2
      · rw [fpW_out hi] at h1; rw [fpW_out hj] at h2; exact w.dis i j a h1 h2
  jn := fun j a h1 => by
    by_cases hj : j ∈ vs
    · rw [fpW_in hj] at h1; cases h1
    · rw [fpW_out hj] at h1; exact w.jn j a h1
def fpB (fp fp1 : Nat → List Addr) (vs : List Nat) : Nat → List Addr := fun j => if j ∈ vs then fp j else fp1 j
theorem fpB_in {vs : List Nat} {j : Nat} (h : j ∈ vs) : fpB fp fp1 vs j = fp j := by unfold fpB; rw [if_pos h]
theorem fpB_out {vs : List Nat} {j : Nat} (h : j ∉ vs) : fpB fp fp1 vs j = fp1 j := by unfold fpB; rw [if_neg h]
/-- the block's slots are brought back -/
theorem Wf.back (w : Wf K H J sg r fp) {vs : List Nat} (w1 : Wf K H1 J1 sg1 r1 fp1) (ag : Agree vs (L2.wipe sg vs) sg1) {F : Addr → Prop} (t : Step (Own (fpW fp vs)) H J F H1 J1) (hF : ∀ b, Own fp1 b → F b) :
    Wf K H1 J1 sg (backR r r1 vs) (fpB fp fp1 vs) ∧ ∀ b, Own (fpB fp fp1 vs) b → F b ∨ Own fp b := by
  have hl : r.length = r1.length := by rw [← w.len, ← w1.len, ag.1, wipe_length]
  have apart : ∀ i b, i ∈ vs → b ∈ fp i → ¬ Own (fpW fp vs) b := fun i b hi hb ⟨j, q⟩ => by
    by_cases hj : j ∈ vs
    · rw [fpW_in hj] at q; cases q
    · rw [fpW_out hj] at q
      have := w.dis i j b hb q
      rw [this] at hi
      exact hj hi
  have offF : ∀ i b, i ∈ vs → b ∈ fp i → J1 b = none ∧ ¬ F b := fun i b hi hb => t.off (w.jn i b hb).1 (apart i b hi hb) (w.jn i b hb).2
  refine ⟨⟨w1.same, ?_, fun j s e ne => ?_, fun j e => ?_, fun i j b h1 h2 => ?_, fun j b h1 => ?_⟩, fun b ⟨j, q⟩ => ?_⟩
  · rw [backR_len, ← hl]; exact w.len
  · by_cases hj : j ∈ vs
    · rw [backR_in hl hj] at e
      rw [fpB_in hj]
      obtain ⟨v, hv, q⟩ := w.rep j s e ne
      exact ⟨v, hv, q.step t fun b hb => apart j b hj hb⟩
    · rw [backR_out hj] at e
      rw [fpB_out hj]
      obtain ⟨v, hv, q⟩ := w1.rep j s e ne
      rw [ag.2 j hj, wipe_out hj] at hv
      exact ⟨v, hv, q⟩
  · by_cases hj : j ∈ vs
    · rw [backR_in hl hj] at e
      rw [fpB_in hj]
      exact w.emp j e
    · rw [backR_out hj] at e
      rw [fpB_out hj]
      exact w1.emp j e
  · by_cases hi : i ∈ vs
    · by_cases hj : j ∈ vs
      · rw [fpB_in hi] at h1; rw [fpB_in hj] at h2; exact w.dis i j b h1 h2
      · rw [fpB_in hi] at h1; rw [fpB_out hj] at h2; exact absurd (hF b ⟨j, h2⟩) (offF i b hi h1).2
    · by_cases hj : j ∈ vs
      · rw [fpB_out hi] at h1; rw [fpB_in hj] at h2; exact absurd (hF b ⟨i, h1⟩) (offF j b hj h2).2
      · rw [fpB_out hi] at h1; rw [fpB_out hj] at h2; exact w1.dis i j b h1 h2
  · by_cases hj : j ∈ vs
    · rw [fpB_in hj] at h1
      obtain ⟨o, ho⟩ := (w.jn j b h1).2
      exact ⟨(offF j b hj h1).1, o, t.fr b o ho (apart j b hj h1)⟩
    · rw [fpB_out hj] at h1; exact w1.jn j b h1
  · by_cases hj : j ∈ vs
    · rw [fpB_in hj] at q; exact .inr ⟨j, q⟩
    · rw [fpB_out hj] at q; exact .inl (hF b ⟨j, q⟩)
end

/-! ### locks -/
inductive Lks (K : PySem.W.Frag) (H J : Hp) (fp : Nat → List Addr) (sg : St) : List Lk → List Addr → Prop
  | nil : Lks K H J fp sg [] []
  | cons {i : Nat} {s : Slot} {v : V} {g gs : List Addr} {ls : List Lk} : sg[i]? = some (some v) → RepS K H J s v g → (∀ b ∈ g, J b = none ∧ ¬ Own fp b) → (∀ b ∈ g, b ∉ gs) → Lks K H J fp sg ls gs → Lks K H J fp sg ((i, s) :: ls) (g ++ gs)
section
variable {K : PySem.W.Frag} {H J H1 J1 : Hp} {sg sg1 : St} {fp fp1 : Nat → List Addr}
theorem Lks.off : ∀ {ls : List Lk} {gs : List Addr}, Lks K H J fp sg ls gs → ∀ b ∈ gs, J b = none ∧ ¬ Own fp b ∧ ∃ o, H b = some o
  | _, _, .nil, b, q => nomatch q
  | _, _, .cons _ h n _ k, b, q => (List.mem_append.mp q).elim (fun q => ⟨(n b q).1, (n b q).2, h.there b q⟩) (k.off b)
theorem Lks.stepG {F F' : Addr → Prop} (t : Step F H J F' H1 J1) (hF' : ∀ b, Own fp1 b → F' b) : ∀ {ls : List Lk} {gs : List Addr}, Lks K H J fp sg ls gs → (∀ b ∈ gs, ¬ F b) → Lks K H1 J1 fp1 sg ls gs
  | _, _, .nil, _ => .nil
  | _, _, .cons h1 h n m k, hF => .cons h1 (h.step t fun b q => hF b (List.mem_append.mpr (.inl q))) (fun b q => by
      have z := t.off (n b q).1 (hF b (List.mem_append.mpr (.inl q))) (h.there b q)
      exact ⟨z.1, fun y => z.2 (hF' b y)⟩) m (k.stepG t hF' fun b q => hF b (List.mem_append.mpr (.inr q)))
theorem Lks.weak (m : ∀ b, Own fp1 b → Own fp b) : ∀ {ls : List Lk} {gs : List Addr}, Lks K H J fp sg ls gs → Lks K H J fp1 sg ls gs
  | _, _, .nil => .nil
  | _, _, .cons h1 h n d k => .cons h1 h (fun b q => ⟨(n b q).1, fun z => (n b q).2 (m b z)⟩) d (k.weak m)
theorem Lks.agree {ws : List Nat} (ag : Agree ws sg sg1) : ∀ {ls : List Lk} {gs : List Addr}, (∀ p ∈ ls, p.1 ∉ ws) → Lks K H J fp sg ls gs → Lks K H J fp sg1 ls gs
  | _, _, _, .nil => .nil
  | _, _, hx, .cons h1 h n m k => .cons (by rw [ag.2 _ (hx _ (List.mem_cons_self ..))]; exact h1) h n m (k.agree ag fun p q => hx p (List.mem_cons_of_mem _ q))
theorem Lks.unlock : ∀ {ls : List Lk} {gs : List Addr} {r : Ro}, Lks K H J fp sg ls gs → Wf K H J sg r fp → ∃ fp', Wf K H J sg (unlks ls r) fp' ∧ ∀ b, Own fp' b → Own fp b ∨ b ∈ gs
  | _, _, r, .nil, w => ⟨fp, w, fun b q => .inl q⟩
  | _, _, r, .cons (i := i) (s := s) (v := v) (g := g) (gs := gs) (ls := ls) h1 h2 h4 n k, w => by
    obtain ⟨fp', w', o'⟩ := k.unlock w
    have hi : i < (unlks ls r).length := by
      rw [← w'.len]
      exact (List.getElem?_eq_some_iff.mp h1).1
    refine ⟨fpSet fp' i g, w'.putKeep hi h1 h2 fun b q => ⟨(h4 b q).1, fun j _ z => ?_⟩, fun b q => ?_⟩
    · rcases o' b ⟨j, z⟩ with y | y
      · exact (h4 b q).2 y
      · exact n b q y
    · rcases own_set q with y | y
      · exact .inr (List.mem_append.mpr (.inl y))
      · exact (o' b y).imp id fun z => List.mem_append.mpr (.inr z)
theorem Lks.app : ∀ {ls ms : List Lk} {gs hs : List Addr}, Lks K H J fp sg ls gs → Lks K H J fp sg ms hs → (∀ b ∈ gs, b ∉ hs) → Lks K H J fp sg (ls ++ ms) (gs ++ hs)
  | _, _, _, _, .nil, k, _ => k
  | _, _, _, _, .cons h1 h n m k, k2, hd => by
    rw [List.append_assoc]
    refine .cons h1 h n (fun b q z => ?_) (k.app k2 fun b q => hd b (List.mem_append.mpr (.inr q)))
    rcases List.mem_append.mp z with z | z
    · exact m b q z
    · exact hd b (List.mem_append.mpr (.inl q)) z

/-- data that stands while the addresses of g do -/
def Std (K : PySem.W.Frag) (g : List Addr) (H J : Hp) (v : V) (d : PyData) : Prop := Sh K J v d ∨ ∃ a xs ds, v = .ref a ∧ d = .list ds ∧ a ∈ g ∧ H a = some (.lst xs) ∧ ShAll K J xs ds
inductive Stds (K : PySem.W.Frag) (g : List Addr) (H J : Hp) : List V → List PyData → Prop
  | nil : Stds K g H J [] []
  | cons {v : V} {vs : List V} {d : PyData} {ds : List PyData} : Std K g H J v d → Stds K g H J vs ds → Stds K g H J (v :: vs) (d :: ds)
theorem Std.mono {g g' : List Addr} {v : V} {d : PyData} (h : Std K g H J v d) (m : ∀ b ∈ g, b ∈ g') : Std K g' H J v d := h.imp id fun ⟨a, xs, ds, h1, h2, h3, h4⟩ => ⟨a, xs, ds, h1, h2, m _ h3, h4⟩
theorem Stds.mono {g g' : List Addr} (m : ∀ b ∈ g, b ∈ g') : ∀ {vs : List V} {ds : List PyData}, Stds K g H J vs ds → Stds K g' H J vs ds
  | _, _, .nil => .nil
  | _, _, .cons h k => .cons (h.mono m) (k.mono m)
theorem Std.keep {g : List Addr} {v : V} {d : PyData} {F F' : Addr → Prop} (h : Std K g H J v d) (t : Step F H J F' H1 J1) (n : ∀ b ∈ g, ¬ F b) : Std K g H1 J1 v d := by
  rcases h with h | ⟨a, xs, ds, h1, h2, h3, h4, h5⟩
  · exact .inl (shMono t.js h)
  · exact .inr ⟨a, xs, ds, h1, h2, h3, t.fr a _ h4 (n a h3), shsMono t.js h5⟩
theorem Std.list {g : List Addr} {v : V} {ds : List PyData} (sm : Same J H) (h : Std K g H J v (.list ds)) : ∃ a xs, v = .ref a ∧ SqL K H a xs ∧ ShAll K J xs ds := by
  rcases h with h | ⟨a, xs, es, e1, e, _, h1, h2⟩
  · cases h with
    | lst h g => exact ⟨_, _, rfl, .of (sm _ _ h), g⟩
  · cases e; exact ⟨a, xs, e1, .of h1, h2⟩
theorem Std.tuple {g : List Addr} {v : V} {ds : List PyData} (sm : Same J H) (h : Std K g H J v (.tuple ds)) : ∃ a xs, v = .ref a ∧ SqT K H a xs ∧ ShAll K J xs ds := by
  rcases h with h | ⟨a, xs, es, e1, e, _, h1, h2⟩
  · cases h with
    | tup h g => exact ⟨_, _, rfl, .of (sm _ _ h), g⟩
  · cases e
/-- the operands locked -/
theorem lk1_ok {r : Ro} {o : Od} {v : V} {g : List Addr} {d : PyData} {l : List Lk} {r1 : Ro} (w : Wf K H J sg r fp) (h : OdR K H J fp sg o v g) (e : lk1 r o = some (d, l, r1)) :
    ∃ fp1 gs, Wf K H J sg r1 fp1 ∧ Lks K H J fp1 sg l gs ∧ Std K gs H J v d ∧ (∀ b, Own fp1 b ∨ b ∈ gs → Own fp b) := by
  cases o with
  | tm s => cases e
  | da d' => cases e; exact ⟨fp, [], w, .nil, .inl h.2, fun b q => q.elim id fun q => nomatch q⟩
  | pl i =>
    simp only [lk1] at e
    split at e
    · rename_i d' ed
      cases e
      obtain ⟨v', hv, q⟩ := w.rep i _ ed (fun z => nomatch z)
      rw [h.2] at hv
      cases hv
      exact ⟨fp, [], w, .nil, .inl q.2, fun b q => q.elim id fun q => nomatch q⟩
    · rename_i ds ed
      cases e
      obtain ⟨v', hv, q⟩ := w.rep i _ ed (fun z => nomatch z)
      rw [h.2] at hv
      cases hv
      have q0 := q
      obtain ⟨a, xs, rfl, hg, ha, hd⟩ := q0
      refine ⟨fpSet fp i [], fp i ++ [], w.drop i, .cons h.2 q (fun b z => ⟨(w.jn i b z).1, own_wipe_ne w z⟩) (fun _ _ z => nomatch z) .nil, .inr ⟨a, xs, ds, rfl, rfl, by rw [hg]; simp, ha, hd⟩, fun b q => ?_⟩
      rcases q with q | q
      · exact own_wipe q
      · exact ⟨i, by simpa using q⟩
    · cases e
theorem lks_ok : ∀ {x : List Od} {vs : List V} {gs0 : List Addr} {r : Ro} {fp : Nat → List Addr} {ds : List PyData} {ls : List Lk} {r2 : Ro}, Wf K H J sg r fp → Ods K H J fp sg x vs gs0 → (∀ p ∈ x, (∃ i, p = Od.pl i) ∨ ∃ d, p = Od.da d) → lks x r = some (ds, ls, r2) →
    ∃ fp2 gs, Wf K H J sg r2 fp2 ∧ Lks K H J fp2 sg ls gs ∧ Stds K gs H J vs ds ∧ (∀ b, Own fp2 b ∨ b ∈ gs → Own fp b)
  | _, _, _, r, fp, ds, ls, r2, w, .nil, _, e => by
    simp only [lks] at e
    cases e
    exact ⟨fp, [], w, .nil, .nil, fun b q => q.elim id fun q => nomatch q⟩
  | _, _, _, r, fp, ds, ls, r2, w, .cons (o := o) (x := x) (v := v) (vs := vs) (gs := gs) h nn k, hp, e => by
    simp only [lks] at e
    cases e1 : lk1 r o with
    | none => rw [e1] at e; cases e
    | some p =>
      obtain ⟨d, l, r1⟩ := p
      rw [e1] at e
      simp only at e
      cases e2 : lks x r1 with
      | none => rw [e2] at e; cases e
      | some p2 =>
        obtain ⟨ds', ls', r2'⟩ := p2
        rw [e2] at e
        cases e
        obtain ⟨fp1, g1, w1, l1, s1, o1⟩ := lk1_ok w h e1
        have k' : Ods K H J fp1 sg x vs gs := by
          clear e2 e1 h s1 nn
          have hp' := fun p q => hp p (List.mem_cons_of_mem _ q)
          clear hp
          induction k with
          | nil => exact .nil
          | cons h n k ih =>
            refine .cons ?_ n (ih fun p q => hp' p (List.mem_cons_of_mem _ q))
            rcases hp' _ (List.mem_cons_self ..) with ⟨i, rfl⟩ | ⟨d, rfl⟩ <;> exact h
        obtain ⟨fp2, g2, w2, l2, s2, o2⟩ := lks_ok w1 k' (fun p q => hp p (List.mem_cons_of_mem _ q)) e2
        have off1 := l1.off
        have l1' : Lks K H J fp2 sg l g1 := l1.weak fun b z => o2 b (.inl z)
        refine ⟨fp2, g1 ++ g2, w2, l1'.app l2 fun b q z => (off1 b q).2.1 (o2 b (.inr z)), .cons (s1.mono fun b q => List.mem_append.mpr (.inl q)) (s2.mono fun b q => List.mem_append.mpr (.inr q)), fun b q => ?_⟩
        rcases q with q | q
        · exact o1 b (.inl (o2 b (.inl q)))
        · rcases List.mem_append.mp q with q | q
          · exact o1 b (.inr q)
          · exact o1 b (.inl (o2 b (.inr q)))
end

/-! ### what a loop walks -/
structure Walks (K : PySem.W.Frag) (T : It) (items : List PyData) (S : Hp → Hp → Prop) : Prop where
  go : ∀ i H J, Same J H → S H J → i < items.length → T.go i H
  stop : ∀ i H J, Same J H → S H J → items.length ≤ i → T.stop i H
  yld : ∀ i H J v H', Same J H → S H J → i < items.length → T.yld i H v H' → ∃ J' d, items[i]? = some d ∧ Sh K J' v d ∧ Same J' H' ∧ S H' J' ∧ Step (fun _ => False) H J (fun _ => False) H' J'

section
variable {K : PySem.W.Frag}
theorem walks_list {a : Addr} {xs : List V} {ds : List PyData} {S : Hp → Hp → Prop} (hS : ∀ H J, Same J H → S H J → SqL K H a xs ∧ ShAll K J xs ds) : Walks K (Itl K a) ds S where
  go := fun i H J sm s h => by
    obtain ⟨h1, h2⟩ := hS H J sm s
    have : i < xs.length := by rw [shsLen h2]; exact h
    exact ⟨xs, xs[i], h1, by simp [this]⟩
  stop := fun i H J sm s h => by
    obtain ⟨h1, h2⟩ := hS H J sm s
    exact ⟨xs, h1, by rw [shsLen h2]; exact h⟩
  yld := fun i H J v H' sm s h y => by
    obtain ⟨e, y⟩ := y
    subst e
    obtain ⟨h1, h2⟩ := hS _ J sm s
    obtain ⟨d, hd, q⟩ := shsGetV h2 (y xs h1)
    exact ⟨J, d, hd, q, sm, s, Step.refl⟩
theorem walks_tup {a : Addr} {xs : List V} {ds : List PyData} {S : Hp → Hp → Prop} (hS : ∀ H J, Same J H → S H J → SqT K H a xs ∧ ShAll K J xs ds) : Walks K (Itt K a) ds S where
  go := fun i H J sm s h => by
    obtain ⟨h1, h2⟩ := hS H J sm s
    have : i < xs.length := by rw [shsLen h2]; exact h
    exact ⟨xs, xs[i], h1, by simp [this]⟩
  stop := fun i H J sm s h => by
    obtain ⟨h1, h2⟩ := hS H J sm s
    exact ⟨xs, h1, by rw [shsLen h2]; exact h⟩
  yld := fun i H J v H' sm s h y => by
    obtain ⟨e, y⟩ := y
    subst e
    obtain ⟨h1, h2⟩ := hS _ J sm s
    obtain ⟨d, hd, q⟩ := shsGetV h2 (y xs h1)
    exact ⟨J, d, hd, q, sm, s, Step.refl⟩
theorem rngL_len (lo : Int) (n : Nat) : (rngL lo n).length = n := by simp [rngL]
theorem rngL_get (lo : Int) (n i : Nat) (h : i < n) : (rngL lo n)[i]? = some (.int (lo + (i : Int))) := by simp [rngL, h]
theorem walks_rng {lo : Int} {n : Nat} : Walks K (Itr lo n) (rngL lo n) (fun _ _ => True) where
  go := fun i H J sm s h => by rw [rngL_len] at h; exact h
  stop := fun i H J sm s h => by rw [rngL_len] at h; exact h
  yld := fun i H J v H' sm s h y => by
    obtain ⟨e, y⟩ := y
    subst e y
    rw [rngL_len] at h
    exact ⟨J, _, rngL_get lo n i h, .int _, sm, trivial, Step.refl⟩
end

section
variable (K : PySem.W.Frag) (W : WX) (Phi : Nat → Ro → FR)
/-- what stands while a loop walks it: apart from g everything may change -/
def Keeps (g : List Addr) (S : Hp → Hp → Prop) : Prop := ∀ F F' H J H' J', S H J → Step F H J F' H' J' → (∀ b ∈ g, ¬ F b) → S H' J'
def FinI (sg : St) (H J : Hp) (fp : Nat → List Addr) (x : R (List PyData × List Lk)) (Q : It → Hp → Prop) : Prop := match x with
  | .ok a r' => ∀ T S H' J' fp' g, Wf K H' J' sg r' fp' → Walks K T a.1 S → S H' J' → Keeps g S → Lks K H' J' fp' sg a.2 g → a.1.length ≤ sizeLine → Step (Own fp) H J (fun b => Own fp' b ∨ b ∈ g) H' J' → Q T H'
  | .ex c fs r' => ∀ H' J' fp' cls d, Wf K H' J' sg r' fp' → XRep K H' J' c fs cls d → Step (Own fp) H J (Own fp') H' J' → W cls d sg H'
  | .bad => False
def tI (it : CI) : TI := fun sg H Q => ∃ J r fp, Wf K H J sg r fp ∧ FinI K W sg H J fp (evI Phi it r) Q
end
end Ev
end

section
set_option Elab.async false
set_option linter.all false
set_option maxRecDepth 100000
set_option maxHeartbeats 4000000
namespace Ev
open PySem L2
variable [Errs]

section
variable (K : PySem.W.Frag) (W : WX) (Phi : Nat → Ro → FR)
/-- how a test may end -/
def FinB (sg : St) (H J : Hp) (fp : Nat → List Addr) (x : R Bool) (Q : Bool → Hp → Prop) : Prop := match x with
  | .ok b r' => ∀ H' J' fp', Wf K H' J' sg r' fp' → Step (Own fp) H J (Own fp') H' J' → Q b H'
  | .ex c fs r' => ∀ H' J' fp' cls d, Wf K H' J' sg r' fp' → XRep K H' J' c fs cls d → Step (Own fp) H J (Own fp') H' J' → W cls d sg H'
  | .bad => False
def tTr (c : CE) : TT := fun sg H Q => ∃ J r fp, Wf K H J sg r fp ∧ FinB K W sg H J fp (ev Phi c r).truth Q
def tCs (c : CEs) : TT := fun sg H Q => ∃ J r fp, Wf K H J sg r fp ∧ FinB K W sg H J fp (evC Phi c r) Q
end

section
variable {K : PySem.W.Frag} {W : WX} {sg : St} {H J H1 J1 : Hp} {fp fp1 : Nat → List Addr} {Phi : Nat → Ro → FR}
theorem step_upd {D : Addr} {o : HO} : Step (fun b => b = D) H J (fun b => b = D) (upd H D o) J where
  js := Same.refl _
  fr := fun b u e n => by rw [upd_ne n]; exact e
  fn := fun _ h => .inl h
  jg := fun _ h => .inl h
theorem same_updN {D : Addr} {o : HO} (sm : Same J H) (hD : J D = none) : Same J (upd H D o) := fun b u e => by
  rw [upd_ne (ne_of_none e hD)]
  exact sm b u e
theorem comp_noex (step : PyData → Ro → R (Option PyData)) : ∀ (ds acc : List PyData) (r : Ro) (c : Nat) (fs : List (PyData × PyData)) (r' : Ro), comp step ds acc r ≠ .ex c fs r'
  | [], acc, r, c, fs, r', h => by simp only [comp] at h; cases h
  | d :: ds, acc, r, c, fs, r', h => by
    simp only [comp] at h
    split at h
    · exact comp_noex step ds _ _ _ _ _ h
    · exact comp_noex step ds _ _ _ _ _ h
    · cases h
    · cases h
abbrev W0 : WX := fun _ _ _ _ => False

/-- a comprehension, by its turns -/
theorem lc_read {elt : CE} {tg : CT} {it : CI} {cond : CEs} {own : List (Str × Nat)} {Q : V → Hp → Prop} (hso : ∀ j ∈ slotsT tg, j ∈ own.map (·.2)) (h : tEv K W Phi (.lc elt tg it cond own) sg H Q) :
    tLc (tI K W Phi it) (tT K tg) (tCs K W0 Phi cond) (tSh K W0 Phi elt) (own.map (·.2)) sg H Q := by
  obtain ⟨J, r, fp, w, f⟩ := h
  refine ⟨J, r, fp, w, ?_⟩
  simp only [ev] at f
  cases e : evI Phi it r with
  | bad => rw [e] at f; exact f
  | ex c fs r1 => rw [e] at f; exact f
  | ok a r1 =>
    obtain ⟨items, lks⟩ := a
    rw [e] at f
    simp only [R.ok_bind] at f
    intro T S H1 J1 fp1 g w1 wk s1 kp o1 hlen t1 D hD
    simp only at o1 hlen wk
    generalize hvs : own.map (·.2) = ws at *
    generalize hst : (fun d q => match asg tg d (wipeR q ws) with
        | some q1 => (evC Phi cond q1).bind fun b q2 => if b = true then (ev Phi elt q2).sh.bind fun y q3 => R.ok (some y) (backR q q3 ws) else R.ok none (backR q q2 ws)
        | none => R.bad) = step at f
    have f' : Fin K W (RepS K) sg H J fp ((comp step items [] r1).bind fun ys r2 => R.ok (Slot.lst ys) (unlks lks r2)) Q := f
    clear f
    cases ec : comp step items [] r1 with
    | bad => rw [ec] at f'; exact f'.elim
    | ex c fs r2 => exact absurd ec (comp_noex step items [] r1 c fs r2)
    | ok ys r2 =>
      rw [ec] at f'
      have f2 : Fin K W (RepS K) sg H J fp (R.ok (Slot.lst ys) (unlks lks r2)) Q := f'
      clear f'
      have hnone : J1 D = none := by
        cases q : J1 D with
        | none => rfl
        | some o => rw [w1.same _ _ q] at hD; cases hD
      have nD : ∀ b, Own fp1 b → b ≠ D := fun b ⟨j, q⟩ z => by
        obtain ⟨o, ho⟩ := (w1.jn j b q).2
        rw [z, hD] at ho; cases ho
      have gD : ∀ b ∈ g, b ≠ D := fun b q z => by
        obtain ⟨_, _, o, ho⟩ := o1.off b q
        rw [z, hD] at ho; cases ho
      refine ⟨fun i m H => m = items.length - i ∧ i ≤ items.length ∧ ∃ J r fp acc ad, Wf K H J sg r fp ∧ S H J ∧ Lks K H J fp sg lks g ∧ H D = some (.lst acc) ∧ ShAll K J acc ad ∧ acc.length ≤ i ∧ ¬ Own fp D ∧ J D = none ∧
          Step (fun b => Own fp1 b ∨ b ∈ g) H1 J1 (fun b => Own fp b ∨ b ∈ g ∨ b = D) H J ∧ comp step (items.drop i) ad r = .ok ys r2, ⟨_, rfl, Nat.zero_le _, J1, r1, fp1, [], [], ?_, ?_, ?_, upd_same, .nil, Nat.zero_le _, fun z => nD D z rfl, hnone, ?_, ec⟩, ?_⟩
      · exact w1.newOwn hD
      · exact kp _ _ _ _ _ _ s1 (step_own (F := fun _ => False) hD) fun _ _ z => z
      · exact Lks.stepG (step_own (F := Own fp1) hD) (fun b z => .inl z) o1 fun b q z => (o1.off b q).2.1 z
      · have st : Step (fun b => Own fp1 b ∨ b ∈ g) H1 J1 (fun b => (Own fp1 b ∨ b ∈ g) ∨ b = D) (upd H1 D (.lst [])) J1 := step_own hD
        exact st.weak fun b z => z.elim (fun z => .inl (.inl z)) fun z => z.elim (fun z => .inl (.inr z)) .inr
      · rintro i m H0 ⟨rfl, hi, J0, r0, fp0, acc, ad, w0, s0, o0, hD0, ha0, hl0, nO0, jD0, st0, ec0⟩
        by_cases hlt : i < items.length
        · refine .inr ⟨wk.go i H0 J0 w0.same s0 hlt, fun H' => _, fun H' q => ⟨items.length - (i + 1), by omega, q⟩, fun x H2 hy => ?_⟩
          obtain ⟨J2, d, hd, hx, sm2, s2, t2⟩ := wk.yld i H0 J0 x H2 w0.same s0 hlt hy
          have edrop : items.drop i = d :: items.drop (i + 1) := by
            rw [List.drop_eq_getElem_cons hlt]
            have := (List.getElem?_eq_some_iff.mp hd).2
            rw [this]
          rw [edrop] at ec0
          simp only [comp] at ec0
          have w2 : Wf K H2 J2 sg r0 fp0 := w0.step t2 sm2 fun _ _ z => z
          have hD2 : H2 D = some (.lst acc) := t2.fr D _ hD0 id
          have jD2 := (t2.off jD0 id ⟨_, hD0⟩).1
          have o2 : Lks K H2 J2 fp0 sg lks g := by
            have t2' : Step (Own fp0) H0 J0 (Own fp0) H2 J2 := ⟨t2.js, fun b o q _ => t2.fr b o q id, fun b q => .inl q, fun b q => (t2.jg b q).imp id fun z => z.imp False.elim id⟩
            exact Lks.stepG t2' (fun _ z => z) o0 fun b q => (o0.off b q).2.1
          have gO : ∀ b ∈ g, ¬ Own fp0 b := fun b q => (o2.off b q).2.1
          have wW := w2.wipe ws
          cases ea : asg tg d (wipeR r0 ws) with
          | none =>
            rw [← hst] at ec0
            simp only [ea] at ec0
            cases ec0
          | some q1 =>
            have hstep : step d r0 = (evC Phi cond q1).bind fun b q2 => if b = true then (ev Phi elt q2).sh.bind fun y q3 => R.ok (some y) (backR r0 q3 ws) else R.ok none (backR r0 q2 ws) := by
              rw [← hst]; simp only [ea]
            rw [hstep] at ec0
            refine asg_ok ea wW hx fun sg3 fp3 w3 own3 ag3 => ?_
            have ag3' : Agree ws (L2.wipe sg ws) sg3 := ag3.mono hso
            refine ⟨agree_wipe ag3', J2, q1, fp3, w3, ?_⟩
            /- what holds at the turn's end -/
            have fin : ∀ {H4 J4 : Hp} {fp4 : Nat → List Addr} {q4 : Ro}, Wf K H4 J4 sg3 q4 fp4 → Step (Own fp3) H2 J2 (Own fp4) H4 J4 → ∀ {acc' : List V} {ad' : List PyData}, ShAll K J4 acc' ad' → acc'.length ≤ i + 1 → comp step (items.drop (i + 1)) ad' (backR r0 q4 ws) = .ok ys r2 →
                ∃ J r fp acc ad, Wf K (upd H4 D (.lst acc')) J sg r fp ∧ S (upd H4 D (.lst acc')) J ∧ Lks K (upd H4 D (.lst acc')) J fp sg lks g ∧ (upd H4 D (.lst acc')) D = some (.lst acc) ∧ ShAll K J acc ad ∧ acc.length ≤ i + 1 ∧ ¬ Own fp D ∧ J D = none ∧
                  Step (fun b => Own fp1 b ∨ b ∈ g) H1 J1 (fun b => Own fp b ∨ b ∈ g ∨ b = D) (upd H4 D (.lst acc')) J ∧ comp step (items.drop (i + 1)) ad r = .ok ys r2 := by
              intro H4 J4 fp4 q4 w4 t4 acc' ad' ha' hl' ec'
              have t4' : Step (Own (fpW fp0 ws)) H2 J2 (Own fp4) H4 J4 := t4.widen own3
              obtain ⟨w5, own5⟩ := w2.back w4 ag3' t4' fun b z => z
              have nD4 := t4'.off jD2 (fun z => nO0 (fpW_own z)) ⟨_, hD2⟩
              have nO5 : ¬ Own (fpB fp0 fp4 ws) D := fun z => (own5 D z).elim nD4.2 nO0
              have jD4 := nD4.1
              have t5 : Step (fun b => b = D) H4 J4 (fun b => b = D) (upd H4 D (.lst acc')) J4 := step_upd
              have t24 : Step (fun b => Own fp0 b ∨ b = D) H2 J2 (fun b => Own (fpB fp0 fp4 ws) b ∨ b = D) (upd H4 D (.lst acc')) J4 := by
                refine ⟨t4'.js, fun b o q n => ?_, fun b q => ?_, fun b q => ?_⟩
                · rw [upd_ne fun z => n (.inr z)]
                  exact t4'.fr b o q fun z => n (.inl (fpW_own z))
                · rcases q with q | q
                  · rcases own5 b q with z | z
                    · exact (t4'.fn b z).imp (fun z => .inl (fpW_own z)) id
                    · exact .inl (.inl z)
                  · exact .inl (.inr q)
                · exact (t4'.jg b q).imp id fun z => z.imp (fun z => .inl (fpW_own z)) id
              have gF : ∀ b ∈ g, ¬ (Own fp0 b ∨ b = D) := fun b q z => z.elim (gO b q) (gD b q)
              refine ⟨J4, backR r0 q4 ws, fpB fp0 fp4 ws, acc', ad', w5.step t5 (same_updN w4.same jD4) (fun b z y => nO5 (by rw [← y]; exact z)), kp _ _ _ _ _ _ s2 t24 gF, Lks.stepG t24 (fun b z => .inl z) o2 gF, upd_same, ha', hl', nO5, jD4, ?_, ec'⟩
              have t02 : Step (fun b => Own fp0 b ∨ b ∈ g ∨ b = D) H0 J0 (fun b => Own fp0 b ∨ b ∈ g ∨ b = D) H2 J2 := ⟨t2.js, fun b o q _ => t2.fr b o q id, fun b q => .inl q, fun b q => (t2.jg b q).imp id fun z => z.imp False.elim id⟩
              refine (st0.trans t02).trans ⟨t24.js, fun b o q n => t24.fr b o q fun z => n (z.elim .inl fun z => .inr (.inr z)), fun b q => ?_, fun b q => (t24.jg b q).imp id fun z => z.imp (fun z => z.elim .inl fun z => .inr (.inr z)) id⟩
              rcases q with q | q | q
              · exact (t24.fn b (.inl q)).imp (fun z => z.elim .inl fun z => .inr (.inr z)) id
              · exact .inl (.inr (.inl q))
              · exact .inl (.inr (.inr q))
            cases e1 : evC Phi cond q1 with
            | bad => rw [e1] at ec0; cases ec0
            | ex c fs q2 => rw [e1] at ec0; cases ec0
            | ok b q2 =>
              rw [e1] at ec0
              intro H3 J3 fpc w3c t3c
              have nDc := (t3c.widen own3).off jD2 (fun z => nO0 (fpW_own z)) ⟨_, hD2⟩
              have hD3 : H3 D = some (.lst acc) := (t3c.widen own3).fr D _ hD2 fun z => nO0 (fpW_own z)
              cases b with
              | false =>
                simp only [R.bind, Bool.false_eq_true, if_false] at ec0
                rw [if_neg Bool.false_ne_true]
                have q := fin w3c t3c (shsMono (t2.js.trans t3c.js) ha0) (by omega) ec0
                have eH : upd H3 D (.lst acc) = H3 := by
                  funext b
                  by_cases z : b = D
                  · rw [z, upd_same, hD3]
                  · rw [upd_ne z]
                rw [eH] at q
                exact ⟨rfl, hlt, q⟩
              | true =>
                rw [if_pos rfl]
                simp only [R.bind, if_true] at ec0
                refine ⟨J3, q2, fpc, w3c, ?_⟩
                cases e2 : (ev Phi elt q2).sh with
                | bad => rw [e2] at ec0; cases ec0
                | ex c fs q3 => rw [e2] at ec0; cases ec0
                | ok yd q3 =>
                  rw [e2] at ec0
                  intro v H4 J4 fp4 g4 w4 hy _ t4
                  obtain ⟨rfl, hy⟩ := hy
                  have t4' := step_nil t4
                  have t34 := t3c.trans t4'
                  refine ⟨acc, (t34.widen own3).fr D _ hD2 fun z => nO0 (fpW_own z), by omega, rfl, hlt, ?_⟩
                  exact fin w4 t34 (shsApp (shsMono ((t2.js.trans t3c.js).trans t4'.js) ha0) (.cons hy .nil)) (by rw [List.length_append, List.length_singleton]; omega) ec0
        · have ei : i = items.length := by omega
          refine .inl ⟨wk.stop i H0 J0 w0.same s0 (by omega), ?_⟩
          rw [ei, List.drop_length] at ec0
          simp only [comp] at ec0
          cases ec0
          obtain ⟨fp3, w3, own3⟩ := o0.unlock w0
          refine f2 (.ref D) H0 J0 fp3 [D] w3 ⟨D, acc, rfl, rfl, hD0, ha0⟩ (fun b q => ?_) ?_
          · cases List.mem_singleton.mp q
            refine ⟨jD0, fun z => (own3 D z).elim nO0 fun z => gD D z rfl⟩
          · refine t1.trans (st0.weak fun b q => ?_)
            rcases q with q | q
            · exact (own3 b q).elim .inl fun z => .inr (.inl z)
            · exact .inr (.inr (List.mem_singleton.mp q))
end
end Ev
end

section
set_option Elab.async false
set_option linter.all false
set_option maxRecDepth 100000
set_option maxHeartbeats 4000000
namespace Ev
open PySem L2
variable [Errs]

/-! ### calls -/
def fpC (g : List Addr) (fp : Nat → List Addr) : Nat → List Addr
  | 0 => g
  | j + 1 => fp j
section
variable {K : PySem.W.Frag} {H J H1 J1 : Hp} {sg : St} {r : Ro} {fp fp1 : Nat → List Addr}
theorem Wf.nil (sm : Same J H) : Wf K H J [] [] (fun _ => []) := ⟨sm, rfl, fun i s e => by simp at e, fun _ _ => rfl, (fun _ _ _ h => nomatch h), (fun _ _ h => nomatch h)⟩
theorem Wf.cons {s : Slot} {v : V} {g : List Addr} (w : Wf K H J sg r fp) (hs : RepS K H J s v g) (hg : ∀ b ∈ g, J b = none ∧ ¬ Own fp b) : Wf K H J (some v :: sg) (s :: r) (fpC g fp) where
  same := w.same
  len := by rw [List.length_cons, List.length_cons, w.len]
  rep := fun i t e ne => by
    cases i with
    | zero => simp at e; subst e; exact ⟨v, rfl, hs⟩
    | succ i => exact w.rep i t (by simpa using e) ne
  emp := fun i e => by
    cases i with
    | zero =>
      simp at e
      subst e
      exact hs.elim
    | succ i => exact w.emp i (by simpa using e)
  dis := fun i j a h1 h2 => by
    cases i with
    | zero =>
      cases j with
      | zero => rfl
      | succ j => exact absurd ⟨j, h2⟩ (hg a h1).2
    | succ i =>
      cases j with
      | zero => exact absurd ⟨i, h1⟩ (hg a h2).2
      | succ j => rw [w.dis i j a h1 h2]
  jn := fun i a h => by
    cases i with
    | zero => exact ⟨(hg a h).1, hs.there a h⟩
    | succ i => exact w.jn i a h
theorem Wf.tail {o : Option V} {s : Slot} (w : Wf K H J (o :: sg) (s :: r) fp) : Wf K H J sg r (fun j => fp (j + 1)) where
  same := w.same
  len := by have := w.len; simpa using this
  rep := fun i t e ne => by
    have := w.rep (i + 1) t (by simpa using e) ne
    simpa using this
  emp := fun i e => w.emp (i + 1) (by simpa using e)
  dis := fun i j a h1 h2 => by have := w.dis (i + 1) (j + 1) a h1 h2; omega
  jn := fun i a h => w.jn (i + 1) a h
theorem Ods.weak (m : ∀ b, Own fp1 b → Own fp b) : ∀ {x : List Od} {vs : List V} {gs : List Addr}, Ods K H J fp sg x vs gs → Ods K H J fp1 sg x vs gs
  | _, _, _, .nil => .nil
  | _, _, _, .cons (o := o) h n k => .cons (by
      cases o with
      | pl i => exact h
      | da d => exact h
      | tm s => exact ⟨h.1, fun b q => ⟨(h.2 b q).1, fun z => (h.2 b q).2 (m b z)⟩⟩) n (k.weak m)
theorem mv1_ok {o : Od} {v : V} {g : List Addr} {s : Slot} {l : Option Nat} {r1 : Ro} (w : Wf K H J sg r fp) (h : OdR K H J fp sg o v g) (e : mv1 r o = some (s, l, r1)) :
    ∃ fp1 gs, Wf K H J sg r1 fp1 ∧ RepS K H J s v gs ∧ (∀ b ∈ gs, J b = none ∧ ¬ Own fp1 b) ∧ (∀ i, l = some i → sg[i]? = some (some v)) ∧ (∀ b, Own fp1 b → Own fp b) ∧ ∀ b ∈ gs, Own fp b ∨ b ∈ g := by
  cases o with
  | da d => cases e; exact ⟨fp, [], w, ⟨rfl, h.2⟩, (fun b z => nomatch z), (fun i z => nomatch z), (fun b z => z), fun b z => nomatch z⟩
  | tm s' => cases e; exact ⟨fp, g, w, h.1, h.2, (fun i z => nomatch z), (fun b z => z), fun b z => .inr z⟩
  | pl i =>
    have own : ∀ s', r[i]? = some s' → s' ≠ .non → ∃ fp1 gs, Wf K H J sg (r.set i .non) fp1 ∧ RepS K H J s' v gs ∧ (∀ b ∈ gs, J b = none ∧ ¬ Own fp1 b) ∧ (∀ j, some i = some j → sg[j]? = some (some v)) ∧ (∀ b, Own fp1 b → Own fp b) ∧ ∀ b ∈ gs, Own fp b ∨ b ∈ g := by
      intro s' e ne
      obtain ⟨v', hv, q⟩ := w.rep i _ e ne
      rw [h.2] at hv
      cases hv
      exact ⟨fpSet fp i [], fp i, w.drop i, q, fun b z => ⟨(w.jn i b z).1, own_wipe_ne w z⟩, (fun j e => by cases e; exact h.2), fun b z => own_wipe z, fun b z => .inl ⟨i, z⟩⟩
    simp only [mv1] at e
    split at e
    · rename_i d ed
      cases e
      obtain ⟨v', hv, q⟩ := w.rep i _ ed (fun z => nomatch z)
      rw [h.2] at hv
      cases hv
      exact ⟨fp, [], w, ⟨rfl, q.2⟩, (fun b z => nomatch z), (fun i z => nomatch z), (fun b z => z), fun b z => nomatch z⟩
    · rename_i ds ed
      cases e
      exact own _ ed (fun z => nomatch z)
    · rename_i t kvs ed
      cases e
      exact own _ ed (fun z => nomatch z)
    · cases e
/-- the places of some arguments -/
inductive Plc (sg : St) : List (Option Nat) → List V → Prop
  | nil : Plc sg [] []
  | cons {l : Option Nat} {ls : List (Option Nat)} {v : V} {vs : List V} : (∀ i, l = some i → sg[i]? = some (some v)) → Plc sg ls vs → Plc sg (l :: ls) (v :: vs)
theorem mvs_ok : ∀ {x : List Od} {vs : List V} {gs : List Addr} {r : Ro} {fp : Nat → List Addr} {args : Ro} {ls : List (Option Nat)} {r2 : Ro}, Wf K H J sg r fp → Ods K H J fp sg x vs gs → mvs x r = some (args, ls, r2) →
    ∃ fp2 fpA, Wf K H J sg r2 fp2 ∧ Wf K H J (vs.map some) args fpA ∧ (∀ b, Own fpA b → ¬ Own fp2 b) ∧ (∀ b, Own fp2 b → Own fp b) ∧ (∀ b, Own fpA b → Own fp b ∨ b ∈ gs) ∧ Plc sg ls vs
  | _, _, _, r, fp, args, ls, r2, w, .nil, e => by
    simp only [mvs] at e
    cases e
    exact ⟨fp, _, w, Wf.nil w.same, (fun b ⟨_, q⟩ => nomatch q), (fun b z => z), (fun b ⟨_, q⟩ => nomatch q), .nil⟩
  | _, _, _, r, fp, args, ls, r2, w, .cons (o := o) (x := x) (v := v) (vs := vs) (g := g) (gs := gs) h nn k, e => by
    simp only [mvs] at e
    cases e1 : mv1 r o with
    | none => rw [e1] at e; cases e
    | some p =>
      obtain ⟨s, l, r1⟩ := p
      rw [e1] at e
      simp only at e
      cases e2 : mvs x r1 with
      | none => rw [e2] at e; cases e
      | some p2 =>
        obtain ⟨ss, ls', r2'⟩ := p2
        rw [e2] at e
        cases e
        obtain ⟨fp1, g1, w1, q1, n1, p1, s1, i1⟩ := mv1_ok w h e1
        obtain ⟨fp2, fpA, w2, wA, dA, s2, i2, pl2⟩ := mvs_ok w1 (k.weak s1) e2
        have offk := k.off
        have dis : ∀ b ∈ g1, ¬ Own fpA b := fun b z y => by
          rcases i2 b y with y | y
          · exact (n1 b z).2 y
          · rcases i1 b z with z | z
            · exact (offk b y).2.1 z
            · exact nn b z y
        refine ⟨fp2, fpC g1 fpA, w2, wA.cons q1 fun b z => ⟨(n1 b z).1, dis b z⟩, fun b ⟨j, z⟩ y => ?_, fun b z => s1 b (s2 b z), fun b ⟨j, z⟩ => ?_, .cons p1 pl2⟩
        · cases j with
          | zero => exact (n1 b z).2 (s2 b y)
          | succ j => exact dA b ⟨j, z⟩ y
        · cases j with
          | zero => exact (i1 b z).imp id fun z => List.mem_append.mpr (.inl z)
          | succ j => exact (i2 b ⟨j, z⟩).imp (s1 b) fun z => List.mem_append.mpr (.inr z)
theorem putBack_ok : ∀ {ls : List (Option Nat)} {vs : List V}, Plc sg ls vs → ∀ {outs : Ro} {fpO : Nat → List Addr} {r : Ro} {fpr : Nat → List Addr}, Wf K H J (vs.map some) outs fpO → Wf K H J sg r fpr →
    (∀ b, Own fpO b → ¬ Own fpr b) → ∃ fp', Wf K H J sg (putBack ls outs r) fp' ∧ ∀ b, Own fp' b → Own fpr b ∨ Own fpO b
  | _, _, .nil, outs, fpO, r, fpr, wo, w, n => by
    refine ⟨fpr, ?_, fun b z => .inl z⟩
    cases outs <;> exact w
  | _, _, .cons (l := l) (ls := ls) (v := v) (vs := vs) h k, outs, fpO, r, fpr, wo, w, n => by
    cases outs with
    | nil => have := wo.len; simp at this
    | cons o os =>
      have wt : Wf K H J (vs.map some) os (fun j => fpO (j + 1)) := Wf.tail (by simpa using wo)
      cases l with
      | none =>
        obtain ⟨fp', w', q⟩ := putBack_ok k wt w fun b ⟨j, z⟩ => n b ⟨j + 1, z⟩
        exact ⟨fp', w', fun b z => (q b z).imp id fun ⟨j, y⟩ => ⟨j + 1, y⟩⟩
      | some i =>
        have hv : sg[i]? = some (some v) := h i rfl
        have hi : i < r.length := by rw [← w.len]; exact (List.getElem?_eq_some_iff.mp hv).1
        have key : ∃ fp2, Wf K H J sg (r.set i o) fp2 ∧ ∀ b, Own fp2 b → Own fpr b ∨ b ∈ fpO 0 := by
          by_cases ne : o = .non
          · subst ne
            exact ⟨_, w.drop i, fun b z => .inl (own_wipe z)⟩
          · obtain ⟨v', e1, e2⟩ := wo.rep 0 o rfl ne
            simp at e1
            subst e1
            exact ⟨_, w.putKeep hi hv e2 fun b q => ⟨(wo.jn 0 b q).1, fun j _ z => n b ⟨0, q⟩ ⟨j, z⟩⟩, fun b z => (own_set z).elim .inr .inl⟩
        obtain ⟨fp2, w2, q2⟩ := key
        obtain ⟨fp', w', q⟩ := putBack_ok k wt w2 fun b ⟨j, z⟩ y => (q2 b y).elim (n b ⟨j + 1, z⟩) fun y => by have := wo.dis _ _ b z y; omega
        refine ⟨fp', w', fun b z => ?_⟩
        rcases q b z with y | ⟨j, y⟩
        · exact (q2 b y).imp id fun y => ⟨0, y⟩
        · exact .inr ⟨j + 1, y⟩
end
section
variable {K : PySem.W.Frag} {W : WX} {sg : St} {H J : Hp} {fp : Nat → List Addr} {Phi : Nat → Ro → FR}
theorem call_read {f : Nat} {es : CEs} {Q : V → Hp → Prop} (h : tEv K W Phi (.call f es) sg H Q) : seqOpd K W (ar1 Phi) es sg H fun vs H2 => spF K (Phi f) vs H2 Q (WE W sg) := by
  obtain ⟨J, r, fp, w, f⟩ := h
  refine seqOpd_of es w ?_
  simp only [ev, evA_many] at f
  cases e : many (ar1 Phi) es r with
  | bad => rw [e] at f; exact f
  | ex c fs r1 => rw [e] at f; exact f
  | ok x r1 =>
    rw [e] at f
    simp only [R.ok_bind] at f
    intro vs H1 J1 fp1 gs w1 o1 t1
    cases em : mvs x r1 with
    | none => rw [em] at f; exact f.elim
    | some p =>
    obtain ⟨args, ls, r2⟩ := p
    rw [em] at f
    simp only at f
    obtain ⟨fp2, fpA, w2, wA, dA, s2, iA, pl⟩ := mvs_ok w1 o1 em
    refine ⟨J1, args, fpA, wA, ?_⟩
    have apart : ∀ b, Own fp2 b → ¬ Own fpA b := fun b z y => dA b y z
    have back : ∀ {outs : Ro} {fpO : Nat → List Addr} {H2 J2 : Hp} {F : Addr → Prop}, Wf K H2 J2 (vs.map some) outs fpO → Step (Own fpA) H1 J1 F H2 J2 → (∀ b, Own fpO b → F b) →
        ∃ fp', Wf K H2 J2 sg (putBack ls outs r2) fp' ∧ (∀ b, Own fp' b → Own fp2 b ∨ Own fpO b) := by
      intro outs fpO H2 J2 F wo t hF
      have w3 : Wf K H2 J2 sg r2 fp2 := w2.step t wo.same fun b z y => apart b z y
      exact putBack_ok pl wo w3 fun b z y => by
        obtain ⟨j, y⟩ := y
        exact (t.off (w2.jn j b y).1 (apart b ⟨j, y⟩) (w2.jn j b y).2).2 (hF b z)
    cases ef : Phi _ args with
    | bad => rw [ef] at f; exact f
    | ret s outs =>
      rw [ef] at f
      intro v H2 J2 fpO g wo q n t
      obtain ⟨fp', w', own'⟩ := back wo t fun b z => .inl z
      refine f v H2 J2 fp' g w' q (fun b z => ⟨(n b z).1, fun y => ?_⟩) (t1.trans ?_)
      · rcases own' b y with y | y
        · obtain ⟨j, y⟩ := y
          exact (t.off (w2.jn j b y).1 (apart b ⟨j, y⟩) (w2.jn j b y).2).2 (.inr z)
        · exact (n b z).2 y
      · refine ⟨t.js, fun b o q n => t.fr b o q fun z => n (iA b z), fun b q => ?_, fun b q => (t.jg b q).imp id fun z => z.imp (iA b) id⟩
        rcases q with q | q
        · rcases own' b q with z | z
          · exact .inl (.inl (s2 b z))
          · exact (t.fn b (.inl z)).imp (iA b) id
        · exact (t.fn b (.inr q)).imp (iA b) id
    | ex c fs outs =>
      rw [ef] at f
      intro H2 J2 fpO cls d wo q t
      obtain ⟨fp', w', own'⟩ := back wo t fun b z => z
      refine f H2 J2 fp' cls d w' q (t1.trans ?_)
      refine ⟨t.js, fun b o q n => t.fr b o q fun z => n (iA b z), fun b q => ?_, fun b q => (t.jg b q).imp id fun z => z.imp (iA b) id⟩
      rcases own' b q with z | z
      · exact .inl (.inl (s2 b z))
      · exact (t.fn b z).imp (iA b) id
end
end Ev
end

section
set_option Elab.async false
set_option linter.all false
set_option maxRecDepth 100000
set_option maxHeartbeats 4000000
namespace Ev
open PySem L2
variable [Errs]

theorem shsErase {K : PySem.W.Frag} {J : Hp} : ∀ {vs : List V} {ds : List PyData} (j : Nat), ShAll K J vs ds → ShAll K J (vs.eraseIdx j) (ds.eraseIdx j)
  | _, _, _, .nil => .nil
  | _, _, 0, .cons _ g => g
  | _, _, j + 1, .cons h g => .cons h (shsErase j g)
theorem mt_popAt' {X : Cx} : MtM X "list.pop" (fun x vs H Q => ∃ l xs i k y, x = .ref l ∧ vs = [.int i] ∧ H l = some (.lst xs) ∧ ixN xs.length i = some k ∧ xs[k]? = some y ∧ Q y (upd H l (.lst (xs.eraseIdx k)))) := by
  intro pins s sg H x vs v us Q I rx rv h
  obtain ⟨l, xs, i, k, y, rfl, rfl, hH, hi, hy, q⟩ := h
  have hl := (I.lstM hH).1
  rw [sizeLine_eq] at hl
  obtain ⟨b1, b2, b3, b4⟩ := ixN_seq hi
  exact mt_popAt pins s sg H _ _ v us Q I rx rv ⟨l, xs, i, k, y, rfl, rfl, hH, by omega, by omega, b1, hy, q⟩

section
variable {P : Prg} {N : List Str} {k : Nat} {Phi : Nat → Ro → FR}
/-! ### names -/
theorem getV_ok {X : Cx} {sc : Scope} {fb : Str → Bool} {W : WX} {i : Nat} {x : Str} {p : Pos} {c : CE} (hc : ∀ r, ev Phi c r = getV i r) (g : Good P N k Phi X sc fb) (h : isV N sc i x = true) : PE X (.Name x p) (tEv X.K W Phi c) := by
  refine PE.imp (isV_ok g h) fun sg H Q ⟨J, r, fp, w, f⟩ => ?_
  rw [hc] at f
  simp only [getV] at f
  split at f
  · rename_i d e
    obtain ⟨v, hv, q⟩ := w.rep i _ e (fun z => nomatch z)
    exact ⟨v, hv, f v H J fp [] w ⟨rfl, q.2⟩ (fun b z => nomatch z) (nil_step Step.refl)⟩
  · rename_i ds e
    obtain ⟨v, J', q, hv, w', t⟩ := w.freeze e rfl rfl
    exact ⟨v, hv, f v H J' _ [] w' ⟨rfl, q⟩ (fun b z => nomatch z) (nil_step t)⟩
  · rename_i ds e
    obtain ⟨v, J', q, hv, w', t⟩ := w.freeze e rfl rfl
    exact ⟨v, hv, f v H J' _ [] w' ⟨rfl, q⟩ (fun b z => nomatch z) (nil_step t)⟩
  · exact f.elim
theorem soundVar {X : Cx} {sc : Scope} {fb : Str → Bool} {W : WX} {i : Nat} {x : Str} {p : Pos} (g : Good P N k Phi X sc fb) (h : isV N sc i x = true) : PE X (.Name x p) (tEv X.K W Phi (.var i)) := getV_ok (fun r => by simp only [ev]) g h
theorem soundShr {X : Cx} {sc : Scope} {fb : Str → Bool} {W : WX} {i : Nat} {x : Str} {p : Pos} (g : Good P N k Phi X sc fb) (h : isV N sc i x = true) : PE X (.Name x p) (tEv X.K W Phi (.shr i)) := getV_ok (fun r => by simp only [ev]) g h
/-- a place as an operand -/
theorem place_ok {X : Cx} {sc : Scope} {fb : Str → Bool} {W : WX} {i : Nat} {x : Str} {p : Pos} {f1 : CE → Ro → R Od} {c : CE} (hc : ∀ r, f1 c r = if has r i = true then .ok (.pl i) r else .bad) (g : Good P N k Phi X sc fb) (h : isV N sc i x = true) : PE X (.Name x p) (tOpd X.K W f1 c) := by
  refine PE.imp (isV_ok g h) fun sg H Q ⟨J, r, fp, w, f⟩ => ?_
  rw [hc] at f
  split at f
  · rename_i hh
    obtain ⟨s, e, ne⟩ := has_some hh
    obtain ⟨v, hv, q⟩ := w.rep i s e ne
    exact ⟨v, hv, f v H J fp [] w ⟨rfl, hv⟩ (nil_step Step.refl)⟩
  · exact f.elim
/-- an operand by its expression -/
theorem PE.opd {X : Cx} {sc : Scope} {fb : Str → Bool} {W : WX} {c : CE} {e : Expr} (g : Good P N k Phi X sc fb) (h : okE P.tx N sc c e = true) (q : PE X e (tEv X.K W Phi c)) : PE X e (tOpd X.K W (rd1 Phi) c) := by
  have gen : (∀ r, rd1 Phi c r = (ev Phi c r).sh.bind fun d r1 => .ok (.da d) r1) → PE X e (tOpd X.K W (rd1 Phi) c) := fun e1 =>
    PE.imp (PE.sh q) fun sg H Q ⟨J, r, fp, w, f⟩ => ⟨J, r, fp, w, finO_sh (by rw [e1] at f; exact f)⟩
  cases c with
  | var i =>
    cases e <;> simp only [okE, Bool.false_eq_true] at h
    exact place_ok (fun r => rfl) g h
  | _ => exact gen fun r => rfl
theorem PE.own {X : Cx} {W : WX} {c : CE} {e : Expr} (q : PE X e (tEv X.K W Phi c)) : PE X e (tOpd X.K W (ar1 Phi) (.own c)) := PE.imp q fun sg H Q ⟨J, r, fp, w, f⟩ => by
  refine ⟨J, r, fp, w, ?_⟩
  simp only [ar1] at f
  cases e : ev Phi c r with
  | bad => rw [e] at f; exact f
  | ex c fs r1 => rw [e] at f; exact f
  | ok s r1 =>
    rw [e] at f
    simp only [R.ok_bind] at f
    intro v H1 J1 fp1 g w1 rp n t
    exact f v H1 J1 fp1 g w1 ⟨rp, n⟩ t
theorem PE.arg {X : Cx} {sc : Scope} {fb : Str → Bool} {W : WX} {c : CE} {e : Expr} (g : Good P N k Phi X sc fb) (h : okE P.tx N sc c e = true) (q : PE X e (tEv X.K W Phi c)) (q2 : ∀ c', c = .own c' → PE X e (tOpd X.K W (ar1 Phi) (.own c'))) : PE X e (tOpd X.K W (ar1 Phi) c) := by
  have gen : (∀ r, ar1 Phi c r = (ev Phi c r).sh.bind fun d r1 => .ok (.da d) r1) → PE X e (tOpd X.K W (ar1 Phi) c) := fun e1 =>
    PE.imp (PE.sh q) fun sg H Q ⟨J, r, fp, w, f⟩ => ⟨J, r, fp, w, finO_sh (by rw [e1] at f; exact f)⟩
  cases c with
  | ref i =>
    cases e <;> simp only [okE, Bool.false_eq_true] at h
    exact place_ok (fun r => rfl) g h
  | own c => exact q2 c rfl
  | _ => exact gen fun r => rfl
theorem PE.itm {X : Cx} {W : WX} {c : CE} {e : Expr} (q : PE X e (tEv X.K W Phi c)) : PE X e (tOpd X.K W (it1 Phi) c) :=
  PE.imp (PE.sh q) fun sg H Q ⟨J, r, fp, w, f⟩ => ⟨J, r, fp, w, finO_sh f⟩

/-! ### displays -/
theorem disp_read {X : Cx} {W : WX} {es : CEs} {sg : St} {H : Hp} {Q : List V → Hp → Prop} {J : Hp} {r : Ro} {fp : Nat → List Addr} (w : Wf X.K H J sg r fp)
    (h : match evs Phi es r with
      | .ok ds r' => ∀ vs H' J' fp', Wf X.K H' J' sg r' fp' → ShAll X.K J' vs ds → vs.length = es.len → Step (Own fp) H J (Own fp') H' J' → Q vs H'
      | .ex c fs r' => ∀ H' J' fp' cls d, Wf X.K H' J' sg r' fp' → XRep X.K H' J' c fs cls d → Step (Own fp) H J (Own fp') H' J' → W cls d sg H'
      | .bad => False) : seqOpd X.K W (it1 Phi) es sg H Q := by
  refine seqOpd_of es w ?_
  rw [evs_many] at h
  cases e : many (it1 Phi) es r with
  | bad => rw [e] at h; exact h
  | ex c fs r1 => rw [e] at h; exact h
  | ok x r1 =>
    rw [e] at h
    simp only [R.ok_bind] at h
    intro vs H1 J1 fp1 gs w1 o1 t1
    obtain ⟨rfl, q⟩ := o1.shared (it1_da e)
    exact h vs H1 J1 fp1 w1 q (o1.len.trans (many_len e)) (step_nil t1)

/-! ### comparisons and operators by their rules -/
theorem bin_ok {X : Cx} {o : Op} {op : Operator} (h : binOf o = some op) : OpR X (binaryOp op) (rPrim2 X.K o) := by
  cases o <;> cases h
  · exact pm_add
  · exact pm_sub
  · exact pm_mul
  · exact pm_fdiv
  · exact pm_mod
  · exact pm_pow
theorem cmp_ok {X : Cx} {sc : Scope} {fb : Str → Bool} {o : Op} {op : CmpOp} (g : Good P N k Phi X sc fb) (h : cmpOf o = some op) : OpR X (compareOp op) (rPrim2 X.K o) := by
  have hu := g.room.units
  have hu5 : X.A.units + 65 < cLine := by have := g.room.un; omega
  cases o <;> cases h
  · exact pm_eq hu
  · exact pm_ne hu
  · exact pm_lt hu5
  · exact pm_le hu5
  · exact pm_gt hu5
  · exact pm_ge hu5
  · exact pm_is
  · exact pm_isnot
  · exact pm_in hu5
  · exact pm_notin hu5
theorem noset {op : CmpOp} {b : Expr} (h : isSet b = false) : behindInMarks op b = false := by
  cases b <;> first | rfl | (simp [isSet] at h)
theorem bname_ok {X : Cx} {sc : Scope} {fb : Str → Bool} {o : Op} {x : Str} {e : Expr} {es : List Expr} {t : TA} {p pos : Pos} (g : Good P N k Phi X sc fb) (h : bname o = some x) (hg : isG sc x = true) (ha : PA X (e :: es) t) (hst : ∀ y ∈ e :: es, isStar y = false) :
    PE X (.Call (.Name x p) (e :: es) [] pos) (tCB (rPrim X.K o) t) := by
  obtain ⟨h1, h2⟩ := isG_ok g hg
  have s1 := star_ok (env := X.env) (es := es) (hst e (List.mem_cons_self ..))
  have s2 := plain_ok (pos := pos) (env := X.env) (es := es) fun y q => hst y (List.mem_cons_of_mem _ q)
  cases o <;> cases h
  · exact pe_callB pm_len h1 (g.blt _ (by simp [bnames])) PySem.boot_len ha (by decide) h2 s1 s2
  · exact pe_callB (pm_max2 g.calm) h1 (g.blt _ (by simp [bnames])) (by decide +kernel) ha (by decide) h2 s1 s2
  · exact pe_callB (pm_min2 g.calm) h1 (g.blt _ (by simp [bnames])) (by decide +kernel) ha (by decide) h2 s1 s2
  · exact pe_callTy pm_int h1 (g.blt _ (by simp [bnames])) (by decide +kernel) ha (by decide) h2 s1 s2
  · exact pe_callTy pm_list h1 (g.blt _ (by simp [bnames])) (by decide +kernel) ha (by decide) h2 s1 s2
  · exact pe_callTy pm_tuple h1 (g.blt _ (by simp [bnames])) (by decide +kernel) ha (by decide) h2 s1 s2
  · exact pe_callB (pm_sorted g.room.units) h1 (g.blt _ (by simp [bnames])) (by decide +kernel) ha (by decide) h2 s1 s2
  · exact pe_callB (pm_sum g.calm) h1 (g.blt _ (by simp [bnames])) (by decide +kernel) ha (by decide) h2 s1 s2
  · exact pe_callB (pm_all g.calm) h1 (g.blt _ (by simp [bnames])) (by decide +kernel) ha (by decide) h2 s1 s2
  · exact pe_callB (pm_any g.calm) h1 (g.blt _ (by simp [bnames])) (by decide +kernel) ha (by decide) h2 s1 s2
  · exact pe_callB (pm_repr g.gd (by have := g.room.un; omega)) h1 (g.blt _ (by simp [bnames])) (by decide +kernel) ha (by decide) h2 s1 s2
  · exact pe_callTy pm_str h1 (g.blt _ (by simp [bnames])) (by decide +kernel) ha (by decide) h2 s1 s2
/-- isinstance with a built-in class -/
theorem isi_ok {X : Cx} {sc : Scope} {fb : Str → Bool} {t : String} {a : Expr} {ta : TE} {p p2 pos : Pos} (g : Good P N k Phi X sc fb) (hg : isG sc "isinstance" = true) (hg2 : isG sc (Str.ofString t) = true) (ht : tyOk t = true) (ha : PE X a ta) (hst : isStar a = false) :
    PE X (.Call (.Name "isinstance" p) [a, .Name (Str.ofString t) p2] [] pos) (tCB (rIsiP X.K t) (tCons ta (tCons (tC (.ty t)) tNil))) := by
  obtain ⟨h1, h2⟩ := isG_ok g hg
  obtain ⟨h3, h4⟩ := isG_ok g hg2
  have s1 := star_ok (env := X.env) (es := [.Name (Str.ofString t) p2]) hst
  have hb : ∃ v, X.mg (Str.ofString t) = none ∧ bootBuiltins (Str.ofString t) = some (.type t) ∧ (Str.ofString t : Str) ≠ "__name__" ∧ v = 0 := by
    simp only [tyOk, Bool.or_eq_true, beq_iff_eq] at ht
    rcases ht with ((((rfl | rfl) | rfl) | rfl) | rfl) | rfl
    · exact ⟨0, g.blt _ (by simp [bnames]), by decide +kernel, by decide +kernel, rfl⟩
    · exact ⟨0, g.blt _ (by simp [bnames]), by decide +kernel, by decide +kernel, rfl⟩
    · exact ⟨0, g.blt _ (by simp [bnames]), by decide +kernel, by decide +kernel, rfl⟩
    · exact ⟨0, g.blt _ (by simp [bnames]), by decide +kernel, by decide +kernel, rfl⟩
    · exact ⟨0, g.blt _ (by simp [bnames]), by decide +kernel, by decide +kernel, rfl⟩
    · exact ⟨0, g.blt _ (by simp [bnames]), by decide +kernel, by decide +kernel, rfl⟩
  obtain ⟨_, b1, b2, b3, _⟩ := hb
  have pt : PE X (.Name (Str.ofString t) p2) (tC (.ty t)) := pe_bltn h3 b1 b2 rfl b3 h4
  exact pe_callB (pm_isi (t := t)) h1 (g.blt _ (by simp [bnames])) (by decide +kernel) (pa_cons ha (pa_cons pt pa_nil rfl) s1) (by decide) h2 s1 rfl
section
variable {X : Cx} {sc : Scope} {fb : Str → Bool}
theorem mthd_ok {m : Str} {i : Nat} {e x : Expr} (h : mthd N m i sc e = some x) : ∃ y p ap cp, e = .Call (.Attribute (.Name y p) m ap) [x] [] cp ∧ isV N sc i y = true ∧ isStar x = false ∧ (ap.endLine == cp.line) = true := by
  unfold mthd at h
  split at h
  · split at h
    · rename_i hc
      cases h
      simp only [Bool.and_eq_true, decide_eq_true_eq, Bool.not_eq_true'] at hc
      obtain ⟨⟨⟨rfl, h2⟩, h3⟩, h4⟩ := hc
      exact ⟨_, _, _, _, rfl, h2, h3, h4⟩
    · cases h
  · cases h
theorem meth_list {m : Str} {id : String} {rr : V → List V → Hp → VK → Prop} {y : Str} {p ap cp : Pos} {x : Expr} {i : Nat} {t : TE} (g : Good P N k Phi X sc fb) (slot : PySem.Slot "list" m id) (hty : typeOf (.builtin id) = pure (.type "method_descriptor")) (hm : MtM X id rr) (hv : isV N sc i y = true) (hs : isStar x = false) (hl : (ap.endLine == cp.line) = true) (hx : PE X x t) :
    PE X (.Call (.Attribute (.Name y p) m ap) [x] [] cp) (tBM X.K "list" rr (tVar i) (tCons t tNil)) := by
  have st := star_ok (env := X.env) (es := []) hs
  refine pe_bm PySem.F.plainAttrs_list slot hty hm (isV_ok g hv) (pa_cons hx pa_nil st) rfl ?_ hl st rfl
  rw [st]
  rfl

end
end
section
variable {K : PySem.W.Frag} {W : WX} {sg : St} {H J : Hp} {fp : Nat → List Addr} {Phi : Nat → Ro → FR}
/-- what a finished evaluation wants of an operation's value -/
theorem Fin.prim {s : Slot} {r : Ro} {Q : V → Hp → Prop} (w : Wf K H J sg r fp) (f : Fin K W (RepS K) sg H J fp (.ok s r) Q) : PrimQ K H J s Q := by
  intro v H2 J2 g q n st sm
  refine f v H2 J2 fp g (w.step st sm fun a _ z => z) q (fun b z => ⟨(n b z).1, fun ⟨j, y⟩ => ?_⟩) ⟨st.js, fun b o q _ => st.fr b o q id, fun b q => ?_, fun b q => (st.jg b q).imp id fun z => z.imp False.elim id⟩
  · obtain ⟨_, o, ho⟩ := w.jn j b y
    rw [(n b z).2] at ho
    cases ho
  · rcases q with q | q
    · exact .inl q
    · exact (st.fn b q).imp False.elim id
theorem xop_op {o : Op} {es : CEs} {Q : V → Hp → Prop} (h : tEv K W Phi (.xop o es) sg H Q) : tEv K W Phi (.op o es) sg H Q := by
  obtain ⟨J, r, fp, w, f⟩ := h
  refine ⟨J, r, fp, w, ?_⟩
  simp only [ev] at f ⊢
  exact f
/-- a method of what a place holds -/
theorem meth_read {o : Op} {i : Nat} {es : CEs} {Q : V → Hp → Prop} (h : tEv K W Phi (.meth o i es) sg H Q) : ∃ v d0 J r, sg[i]? = some (some v) ∧ Same J H ∧ Vw K H J v d0 ∧ rdO r (.pl i) = some d0 ∧ mTy o r i = true ∧ seqOpd K W (rd1 Phi) es sg H (fun vs H2 => rPrim K o (v :: vs) H2 Q) := by
  obtain ⟨J, r, fp, w, f⟩ := h
  simp only [ev] at f
  split at f
  · rename_i hm
    have h0 : ∃ s d0, r[i]? = some s ∧ toSh s = some d0 := by
      unfold mTy at hm
      split at hm
      · rename_i e
        simp only [rdO] at e
        split at e
        · rename_i s es; exact ⟨s, _, es, e⟩
        · cases e
      · cases hm
    obtain ⟨s, d0, es0, ed0⟩ := h0
    obtain ⟨v, hv, q0⟩ := w.rep i s es0 (fun z => by rw [z] at ed0; cases ed0)
    refine ⟨v, d0, J, r, hv, w.same, q0.view ed0, by simp only [rdO, es0, ed0], hm, seqOpd_of es w ?_⟩
    rw [rds_many] at f
    cases e : many (rd1 Phi) es r with
    | bad => rw [e] at f; exact f
    | ex c fs r1 => rw [e] at f; exact f
    | ok x r1 =>
      rw [e] at f
      simp only [R.bind] at f
      intro vs H1 J1 fp1 gs w1 o1 t1
      obtain rfl := o1.plain (rd1_plain e)
      cases er : rdOs r1 (.pl i :: x) with
      | none => rw [er] at f; exact f.elim
      | some ds =>
        rw [er] at f
        simp only at f
        cases ep : prim o ds with
        | none => rw [ep] at f; exact f.elim
        | some s =>
          rw [ep] at f
          have o2 : Ods K H1 J1 fp1 sg (.pl i :: x) (v :: vs) ([] ++ []) := .cons ⟨rfl, hv⟩ (fun b z => nomatch z) o1
          refine ⟨J1, _, s, w1.same, o2.views w1 er, ep, fun v H2 J2 g q n st sm => ?_⟩
          refine f v H2 J2 fp1 g (w1.step st sm fun a _ z => z) q (fun b z => ⟨(n b z).1, fun y => ?_⟩) ((step_nil t1).trans ?_)
          · obtain ⟨j, y⟩ := y
            obtain ⟨_, o, ho⟩ := w1.jn j b y
            rw [(n b z).2] at ho
            cases ho
          · refine ⟨st.js, fun b o q _ => st.fr b o q id, fun b q => ?_, fun b q => (st.jg b q).imp id fun z => z.imp False.elim id⟩
            rcases q with q | q
            · exact .inl q
            · exact (st.fn b q).imp False.elim id
  · exact f.elim
theorem Vw.step {v : V} {d : PyData} {H1 J1 : Hp} {F : Addr → Prop} (h : Vw K H J v d) (t : Step (fun _ => False) H J F H1 J1) : Vw K H1 J1 v d := by
  rcases h with h | ⟨a, xs, ds, h1, h2, h3, h4⟩ | ⟨a, ho, tt, kvs, h1, h2, h3, h4⟩
  · exact .inl (shMono t.js h)
  · exact .inr (.inl ⟨a, xs, ds, h1, h2, t.fr a _ h3 id, shsMono t.js h4⟩)
  · exact .inr (.inr ⟨a, ho, tt, kvs, h1, h2, t.fr a _ h3 id, h4.mono t.js⟩)
theorem Vws.step {H1 J1 : Hp} {F : Addr → Prop} (t : Step (fun _ => False) H J F H1 J1) : ∀ {vs : List V} {ds : List PyData}, Vws K H J vs ds → Vws K H1 J1 vs ds
  | _, _, .nil => .nil
  | _, _, .cons h k => .cons (h.step t) (k.step t)
/-- a new tuple beside does not matter -/
theorem rPrim.new {o : Op} {vs : List V} {Q : VK} {p : Addr} {ho : HO} (h : rPrim K o vs H Q) (hp : H p = none) : rPrim K o vs (upd H p ho) Q := by
  obtain ⟨J, ds, s, sm, vw, ep, q⟩ := h
  have st : Step (fun _ => False) H J (fun _ => False) (upd H p ho) (upd J p ho) := step_new sm hp
  refine ⟨upd J p ho, ds, s, same_upd2 sm, vw.step st, ep, fun v H' J' g rp n t sm' => q v H' J' g rp (fun b z => ⟨(n b z).1, ?_⟩) (st.trans t) sm'⟩
  have := (n b z).2
  by_cases e : b = p
  · rw [e]; exact hp
  · rw [upd_ne e] at this; exact this
theorem isD_of {v : V} {t : Bool} {kvs : List (PyData × PyData)} (sm : Same J H) (h : Vw K H J v (.dict ((.bool t, .none) :: kvs))) : ∃ a, v = .ref a ∧ IsD H a := by
  obtain ⟨a, ho, rfl, ha, hd⟩ := h.dict sm
  refine ⟨a, rfl, ?_⟩
  cases t with
  | false => obtain ⟨ks, rfl, _⟩ := hd; exact .inl ⟨ks, .inl ha⟩
  | true => obtain ⟨ks, rfl, _⟩ := hd; exact .inr ⟨ks, .inl ha⟩
theorem mTy_get {r : Ro} {i : Nat} {d0 : PyData} (h : mTy .get r i = true) (e : rdO r (.pl i) = some d0) : ∃ t kvs, d0 = .dict ((.bool t, .none) :: kvs) := by
  unfold mTy at h
  rw [e] at h
  split at h
  · rename_i q; cases q; exact ⟨_, _, rfl⟩
  · cases h
theorem pGet_some {ds : List PyData} {t : Slot} (h : pGet ds = some t) : ∃ b kvs k, isKey b k = true ∧ ((ds = [.dict ((.bool b, .none) :: kvs), k] ∧ t = .sh ((lookD k kvs).getD .none)) ∨ ∃ d, isImm d = true ∧ ds = [.dict ((.bool b, .none) :: kvs), k, d] ∧ t = .sh ((lookD k kvs).getD d)) := by
  unfold pGet at h
  split at h
  · split at h
    · cases h; exact ⟨_, _, _, by assumption, .inl ⟨rfl, rfl⟩⟩
    · cases h
  · split at h
    · rename_i hz
      simp only [Bool.and_eq_true] at hz
      cases h; exact ⟨_, _, _, hz.1, .inr ⟨_, hz.2, rfl, rfl⟩⟩
    · cases h
  · cases h
theorem get1_of {a : Addr} {y : V} {Q : VK} (h : rPrim K .get [.ref a, y] H Q) : ∃ o, DGet H a y o ∧ Q (o.getD .non) H := by
  obtain ⟨J, ds, t, sm, vw, hp, q⟩ := h
  obtain ⟨b, kvs, k, hk, ⟨rfl, rfl⟩ | ⟨d, hd, rfl, rfl⟩⟩ := pGet_some (show pGet ds = some t from hp)
  · obtain ⟨a1, a2⟩ := vw.two'
    obtain ⟨l, ho, e, ha, ga⟩ := a1.dict sm
    cases e
    obtain ⟨o, hg, ho2⟩ := ga.get sm ha (a2.key sm hk)
    refine ⟨o, hg, ?_⟩
    cases o with
    | none => cases e : lookD k kvs with
      | none => rw [e] at q; exact q.val sm .non
      | some z => rw [e] at ho2; exact ho2.elim
    | some v => cases e : lookD k kvs with
      | none => rw [e] at ho2; exact ho2.elim
      | some z => rw [e] at q ho2; exact q.val sm ho2
  · cases vw with
    | cons _ v2 => cases v2 with
      | cons _ v3 => cases v3
theorem get2_of {a : Addr} {y z : V} {Q : VK} (h : rPrim K .get [.ref a, y, z] H Q) : ∃ o, DGet H a y o ∧ Q (o.getD z) H := by
  obtain ⟨J, ds, t, sm, vw, hp, q⟩ := h
  obtain ⟨b, kvs, k, hk, ⟨rfl, rfl⟩ | ⟨d, hd, rfl, rfl⟩⟩ := pGet_some (show pGet ds = some t from hp)
  · cases vw with
    | cons _ v2 => cases v2 with
      | cons _ v3 => cases v3
  · cases vw with
    | cons a1 v2 => cases v2 with
      | cons a2 v3 =>
        have a3 := v3.one'
        obtain ⟨l, ho, e, ha, ga⟩ := a1.dict sm
        cases e
        obtain ⟨o, hg, ho2⟩ := ga.get sm ha (a2.key sm hk)
        refine ⟨o, hg, ?_⟩
        cases o with
        | none => cases e : lookD k kvs with
          | none =>
            rw [e] at q
            refine q.val sm ?_
            rcases a3 with h | ⟨_, _, _, _, e, _⟩ | ⟨_, _, _, _, _, e, _⟩
            · exact h
            · rw [e] at hd; cases hd
            · rw [e] at hd; cases hd
          | some z => rw [e] at ho2; exact ho2.elim
        | some v => cases e : lookD k kvs with
          | none => rw [e] at ho2; exact ho2.elim
          | some z => rw [e] at q ho2; exact q.val sm ho2
end
end Ev
end

section
set_option Elab.async false
set_option linter.all false
set_option maxRecDepth 100000
set_option maxHeartbeats 4000000
namespace Ev
open PySem L2
variable [Errs]

/-- a list or a tuple that is walked, its length told -/
def iSeq (K : PySem.W.Frag) (tl : TE) : TI := fun sg H R => tl sg H fun x H1 => (∃ a xs, x = .ref a ∧ SqL K H1 a xs ∧ (xs.length ≤ sizeLine → R (Itl K a) H1)) ∨ (∃ a xs, x = .ref a ∧ SqT K H1 a xs ∧ (xs.length ≤ sizeLine → R (Itt K a) H1))
theorem pi_seq {X : Cx} {tg l : Expr} {tl : TE} (hl : PE X l tl) : PI X tg l (iSeq X.K tl) := by
  refine ⟨fun pins s sg H R I h => ?_⟩
  refine thn (hl.run pins s sg H _ I h) fun v s1 ⟨x, H1, I1, r1, q1⟩ => ?_
  rcases q1 with ⟨a, xs, e, hq, q⟩ | ⟨a, xs, e, hq, q⟩
  · subst e
    cases r1
    obtain ⟨its, rv, p, hz⟩ := I1.list hq
    refine wpAny_pyIter_list p.isList ?_
    refine ⟨s1.heap.objs.size, [s1.heap.objs.size], _, _, H1, rfl, I1.kept (t' := s1.toks) fun b o e => Heap.get?_push_of_some _ e, turn_list a _, ⟨_, Heap.get?_push_size _ rfl, rfl, rfl⟩, fun b hb => ?_, q hz⟩
    have e : b = s1.heap.objs.size := by simpa using hb
    subst e
    exact I1.fpOk (Nat.le_refl _) (I1.hok.fresh (Nat.le_refl _))
  · subst e
    cases r1
    obtain ⟨its, rv, p, hz⟩ := I1.tuple hq
    refine wpAny_pyIter_tuple (show s1.heap.IsTuple a its.toArray from p) ?_
    refine ⟨s1.heap.objs.size, [s1.heap.objs.size], _, _, H1, rfl, I1.kept (t' := s1.toks) fun b o e => Heap.get?_push_of_some _ e, turn_tuple a _, ⟨_, Heap.get?_push_size _ rfl, rfl, rfl⟩, fun b hb => ?_, q hz⟩
    have e : b = s1.heap.objs.size := by simpa using hb
    subst e
    exact I1.fpOk (Nat.le_refl _) (I1.hok.fresh (Nat.le_refl _))

section
variable {K : PySem.W.Frag} {W : WX} {sg : St} {H J : Hp} {fp : Nat → List Addr} {Phi : Nat → Ro → FR}
theorem keeps_J {S : Hp → Prop} (h : ∀ J J', Same J J' → S J → S J') : Keeps [] (fun _ J => S J) := fun F F' H J H' J' s t _ => h J J' t.js s
/-- the walk of data that stands -/
theorem seq_std {d : PyData} {r1 : Ro} {ls : List Lk} {g : List Addr} {Q : It → Hp → Prop} {v : V} {H1 J1 : Hp} {fp1 : Nat → List Addr} (w1 : Wf K H1 J1 sg r1 fp1) (q : Std K g H1 J1 v d) (lk : Lks K H1 J1 fp1 sg ls g)
    (f : match seqI d ls r1 with
      | .ok a r' => ∀ T S, Walks K T a.1 S → S H1 J1 → Keeps g S → r' = r1 → a.2 = ls → a.1.length ≤ sizeLine → Q T H1
      | _ => False) :
    (∃ a xs, v = .ref a ∧ SqL K H1 a xs ∧ (xs.length ≤ sizeLine → Q (Itl K a) H1)) ∨ (∃ a xs, v = .ref a ∧ SqT K H1 a xs ∧ (xs.length ≤ sizeLine → Q (Itt K a) H1)) := by
  cases d with
  | list ds =>
    obtain ⟨a, xs, rfl, h1, h2⟩ := q.list w1.same
    refine .inl ⟨a, xs, rfl, h1, fun hl => ?_⟩
    refine f (Itl K a) (fun H J => Std K g H J (.ref a) (.list ds)) ?_ q (fun F F' H J H' J' s t n => s.keep t n) rfl rfl (by rw [← shsLen h2]; exact hl)
    constructor
    · intro i H J sm s h
      obtain ⟨_, xs, e, h1, h2⟩ := s.list sm
      cases e
      have : i < xs.length := by rw [shsLen h2]; exact h
      exact ⟨xs, xs[i], h1, by simp [this]⟩
    · intro i H J sm s h
      obtain ⟨_, xs, e, h1, h2⟩ := s.list sm
      cases e
      exact ⟨xs, h1, by rw [shsLen h2]; exact h⟩
    · intro i H J v H' sm s h y
      obtain ⟨e, y⟩ := y
      subst e
      obtain ⟨_, xs, e, h1, h2⟩ := s.list sm
      cases e
      obtain ⟨d, hd, q⟩ := shsGetV h2 (y xs h1)
      exact ⟨J, d, hd, q, sm, s, Step.refl⟩
  | tuple ds =>
    obtain ⟨a, xs, rfl, h1, h2⟩ := q.tuple w1.same
    refine .inr ⟨a, xs, rfl, h1, fun hl => ?_⟩
    refine f (Itt K a) (fun H J => Std K g H J (.ref a) (.tuple ds)) ?_ q (fun F F' H J H' J' s t n => s.keep t n) rfl rfl (by rw [← shsLen h2]; exact hl)
    constructor
    · intro i H J sm s h
      obtain ⟨_, xs, e, h1, h2⟩ := s.tuple sm
      cases e
      have : i < xs.length := by rw [shsLen h2]; exact h
      exact ⟨xs, xs[i], h1, by simp [this]⟩
    · intro i H J sm s h
      obtain ⟨_, xs, e, h1, h2⟩ := s.tuple sm
      cases e
      exact ⟨xs, h1, by rw [shsLen h2]; exact h⟩
    · intro i H J v H' sm s h y
      obtain ⟨e, y⟩ := y
      subst e
      obtain ⟨_, xs, e, h1, h2⟩ := s.tuple sm
      cases e
      obtain ⟨d, hd, q⟩ := shsGetV h2 (y xs h1)
      exact ⟨J, d, hd, q, sm, s, Step.refl⟩
  | none => exact f.elim
  | bool _ => exact f.elim
  | int _ => exact f.elim
  | str _ => exact f.elim
  | dict _ => exact f.elim
/-- the walk of shared data -/
theorem seq_sh {d : PyData} {r1 : Ro} {Q : It → Hp → Prop} {v : V} {H1 J1 : Hp} {fp1 : Nat → List Addr} (w1 : Wf K H1 J1 sg r1 fp1) (q : Sh K J1 v d)
    (f : FinI K W sg H1 J1 fp1 (seqI d [] r1) Q) :
    (∃ a xs, v = .ref a ∧ SqL K H1 a xs ∧ (xs.length ≤ sizeLine → Q (Itl K a) H1)) ∨ (∃ a xs, v = .ref a ∧ SqT K H1 a xs ∧ (xs.length ≤ sizeLine → Q (Itt K a) H1)) := by
  refine seq_std w1 (.inl q) .nil ?_
  revert f
  cases d <;> simp only [seqI] <;> intro f <;> first | exact f.elim | (intro T S wk s kp e1 e2 hl; exact f T S H1 J1 fp1 [] w1 wk s kp .nil hl (nil_step Step.refl))
theorem FinI.later {x : R (List PyData × List Lk)} {Q : It → Hp → Prop} {H1 J1 : Hp} {fp1 : Nat → List Addr} (s : Step (Own fp) H J (Own fp1) H1 J1) (h : FinI K W sg H J fp x Q) : FinI K W sg H1 J1 fp1 x Q := by
  cases x with
  | ok a r => exact fun T S H' J' fp' g w wk s1 kp o hl t => h T S H' J' fp' g w wk s1 kp o hl (s.trans t)
  | ex c fs r => exact fun H' J' fp' cls d w q t => h H' J' fp' cls d w q (s.trans t)
  | bad => exact h
theorem FinI.bindD {x : R PyData} {f : PyData → Ro → R (List PyData × List Lk)} {Q : It → Hp → Prop} {T : V → Hp → Prop} (h : FinI K W sg H J fp (x.bind f) Q)
    (k : ∀ d r1 v H1 J1 fp1, x = .ok d r1 → Wf K H1 J1 sg r1 fp1 → Sh K J1 v d → FinI K W sg H1 J1 fp1 (f d r1) Q → T v H1) : Fin K W (RepD K) sg H J fp x T := by
  cases x with
  | ok d r1 =>
    intro v H1 J1 fp1 g w q n t
    obtain ⟨rfl, q⟩ := q
    exact k d r1 v H1 J1 fp1 rfl w q (FinI.later (step_nil t) h)
  | ex c fs r => exact h
  | bad => exact h
/-- from a test to the value -/
theorem tr_ev {c : CE} {Q : Bool → Hp → Prop} (h : tTr K W Phi c sg H Q) : tEv K W Phi c sg H fun v H' => ∃ b, v = .bl b ∧ Q b H' := by
  obtain ⟨J, r, fp, w, f⟩ := h
  refine ⟨J, r, fp, w, ?_⟩
  cases e : ev Phi c r with
  | bad => rw [e] at f; exact f
  | ex c fs r1 => rw [e] at f; exact f
  | ok s r1 =>
    rw [e] at f
    intro v H1 J1 fp1 g w1 q n t
    cases s with
    | non => exact f.elim
    | lst ds => exact f.elim
    | dct _ _ => exact f.elim
    | sh d =>
      obtain ⟨rfl, q⟩ := q
      cases q with
      | bl b => exact ⟨b, rfl, f H1 J1 fp1 w1 (step_nil t)⟩
      | _ => exact f.elim
theorem FinB.later {x : R Bool} {Q : Bool → Hp → Prop} {H1 J1 : Hp} {fp1 : Nat → List Addr} (s : Step (Own fp) H J (Own fp1) H1 J1) (h : FinB K W sg H J fp x Q) : FinB K W sg H1 J1 fp1 x Q := by
  cases x with
  | ok a r => exact fun H' J' fp' w t => h H' J' fp' w (s.trans t)
  | ex c fs r => exact fun H' J' fp' cls d w q t => h H' J' fp' cls d w q (s.trans t)
  | bad => exact h
theorem not_read {a : CE} {Q : Bool → Hp → Prop} (h : tTr K W Phi (.not a) sg H Q) : tNot (tTr K W Phi a) sg H Q := by
  obtain ⟨J, r, fp, w, f⟩ := h
  refine ⟨J, r, fp, w, ?_⟩
  simp only [ev] at f
  cases e : (ev Phi a r).truth with
  | bad => rw [e] at f; exact f
  | ex c fs r1 => rw [e] at f; exact f
  | ok b r1 => rw [e] at f; exact f
theorem and_read {a b : CE} {Q : Bool → Hp → Prop} (h : tTr K W Phi (.and a b) sg H Q) : tAnd (tTr K W Phi a) (tTr K W Phi b) sg H Q := by
  obtain ⟨J, r, fp, w, f⟩ := h
  refine ⟨J, r, fp, w, ?_⟩
  simp only [ev] at f
  cases e : (ev Phi a r).truth with
  | bad => rw [e] at f; exact f
  | ex c fs r1 => rw [e] at f; exact f
  | ok x r1 =>
    rw [e] at f
    intro H1 J1 fp1 w1 t
    have f1 := FinB.later t f
    cases x with
    | true => exact ⟨J1, r1, fp1, w1, f1⟩
    | false => exact f1 H1 J1 fp1 w1 Step.refl
theorem or_read {a b : CE} {Q : Bool → Hp → Prop} (h : tTr K W Phi (.or a b) sg H Q) : tOr (tTr K W Phi a) (tTr K W Phi b) sg H Q := by
  obtain ⟨J, r, fp, w, f⟩ := h
  refine ⟨J, r, fp, w, ?_⟩
  simp only [ev] at f
  cases e : (ev Phi a r).truth with
  | bad => rw [e] at f; exact f
  | ex c fs r1 => rw [e] at f; exact f
  | ok x r1 =>
    rw [e] at f
    intro H1 J1 fp1 w1 t
    have f1 := FinB.later t f
    cases x with
    | false => exact ⟨J1, r1, fp1, w1, f1⟩
    | true => exact f1 H1 J1 fp1 w1 Step.refl
theorem notV_read {a : CE} {Q : V → Hp → Prop} (h : tEv K W Phi (.not a) sg H Q) : tNotV (tEv K W Phi a) sg H Q := by
  obtain ⟨J, r, fp, w, f⟩ := h
  refine tr_ev (Q := fun b H' => Q (.bl (!b)) H') ⟨J, r, fp, w, ?_⟩
  simp only [ev] at f
  cases e : (ev Phi a r).truth with
  | bad => rw [e] at f; exact f
  | ex c fs r1 => rw [e] at f; exact f
  | ok b r1 =>
    rw [e] at f
    exact fun H1 J1 fp1 w1 t => f _ H1 J1 fp1 [] w1 ⟨rfl, .bl _⟩ (fun b z => nomatch z) (nil_step t)
theorem andV_read {a b : CE} {Q : V → Hp → Prop} (h : tEv K W Phi (.and a b) sg H Q) : tAndV (tEv K W Phi a) (tEv K W Phi b) sg H Q := by
  obtain ⟨J, r, fp, w, f⟩ := h
  refine tr_ev (Q := fun b' H' => if b' = true then tEv K W Phi b sg H' Q else Q (.bl false) H') ⟨J, r, fp, w, ?_⟩
  simp only [ev] at f
  cases e : (ev Phi a r).truth with
  | bad => rw [e] at f; exact f
  | ex c fs r1 => rw [e] at f; exact f
  | ok x r1 =>
    rw [e] at f
    intro H1 J1 fp1 w1 t
    have f1 := Fin.later t f
    cases x with
    | true => exact ⟨J1, r1, fp1, w1, f1⟩
    | false => exact f1 _ H1 J1 fp1 [] w1 ⟨rfl, .bl _⟩ (fun b z => nomatch z) (nil_step Step.refl)
theorem orV_read {a b : CE} {Q : V → Hp → Prop} (h : tEv K W Phi (.or a b) sg H Q) : tOrV (tEv K W Phi a) (tEv K W Phi b) sg H Q := by
  obtain ⟨J, r, fp, w, f⟩ := h
  refine tr_ev (Q := fun b' H' => if b' = true then Q (.bl true) H' else tEv K W Phi b sg H' Q) ⟨J, r, fp, w, ?_⟩
  simp only [ev] at f
  cases e : (ev Phi a r).truth with
  | bad => rw [e] at f; exact f
  | ex c fs r1 => rw [e] at f; exact f
  | ok x r1 =>
    rw [e] at f
    intro H1 J1 fp1 w1 t
    have f1 := Fin.later t f
    cases x with
    | false => exact ⟨J1, r1, fp1, w1, f1⟩
    | true => exact f1 _ H1 J1 fp1 [] w1 ⟨rfl, .bl _⟩ (fun b z => nomatch z) (nil_step Step.refl)
theorem chain_read {o p : Op} {a b c : CE} {Q : V → Hp → Prop} (h : tEv K W Phi (.chain o p a b c) sg H Q) :
    tChain (rPrim2 K o) (rPrim2 K p) (tSh K W Phi a) (tSh K W Phi b) (tSh K W Phi c) sg H Q := by
  obtain ⟨J, r, fp, w, f⟩ := h
  simp only [ev] at f
  refine ⟨J, r, fp, w, Fin.bindD f fun x r1 vx H1 J1 fp1 _ w1 qx t1 f1 => ⟨J1, r1, fp1, w1, Fin.bindD f1 fun y r2 vy H2 J2 fp2 _ w2 qy t2 f2 => ?_⟩⟩
  have vws : Vws K H2 J2 [vx, vy] [x, y] := .cons (.inl (shMono t2.js qx)) (.cons (.inl qy) .nil)
  cases ep : prim o [x, y] with
  | none => rw [ep] at f2; exact f2.elim
  | some s =>
    rw [ep] at f2
    refine ⟨J2, [x, y], s, w2.same, vws, ep, fun v H3 J3 g q n st sm => ?_⟩
    cases s with
    | non => exact f2.elim
    | lst ds => exact f2.elim
    | dct _ _ => exact f2.elim
    | sh d =>
      obtain ⟨rfl, q⟩ := q
      have w3 : Wf K H3 J3 sg r2 fp2 := w2.step st sm fun _ _ z => z
      have t3 : Step (Own fp2) H2 J2 (Own fp2) H3 J3 := ⟨st.js, fun b o q _ => st.fr b o q id, fun b q => .inl q, fun b q => (st.jg b q).imp id fun z => z.imp False.elim id⟩
      cases q with
      | bl k =>
        refine ⟨k, rfl, ?_⟩
        cases k with
        | false =>
          rw [if_neg Bool.false_ne_true]
          exact (Fin.later t3 f2) _ H3 J3 fp2 [] w3 ⟨rfl, .bl _⟩ (fun b z => nomatch z) (nil_step Step.refl)
        | true =>
          rw [if_pos rfl]
          have f3 := Fin.later t3 f2
          refine ⟨J3, r2, fp2, w3, Fin.bindD f3 fun z r4 vz H4 J4 fp4 _ w4 qz t4 f4 => ?_⟩
          cases ep2 : prim p [y, z] with
          | none => rw [ep2] at f4; exact f4.elim
          | some s =>
            rw [ep2] at f4
            refine ⟨J4, [y, z], s, w4.same, .cons (.inl (shMono (st.js.trans t4.js) qy)) (.cons (.inl qz) .nil), ep2, fun v H5 J5 g q n st sm => ?_⟩
            refine f4 v H5 J5 fp4 g (w4.step st sm fun _ _ z => z) q (fun b z => ⟨(n b z).1, fun ⟨j, y⟩ => ?_⟩) ⟨st.js, fun b o q _ => st.fr b o q id, fun b q => ?_, fun b q => (st.jg b q).imp id fun z => z.imp False.elim id⟩
            · obtain ⟨_, o, ho⟩ := w4.jn j b y
              rw [(n b z).2] at ho; cases ho
            · rcases q with q | q
              · exact .inl q
              · exact (st.fn b q).imp False.elim id
      | _ => exact f2.elim
end
end Ev
end

section
set_option Elab.async false
set_option linter.all false
set_option maxRecDepth 100000
set_option maxHeartbeats 4000000
namespace Ev
open PySem L2
variable [Errs]
/-! ### zip and enumerate -/
section
variable {K : PySem.W.Frag} {W : WX} {sg : St} {H J : Hp} {fp : Nat → List Addr} {Phi : Nat → Ro → FR}
/-- a list that stands while it is walked -/
theorem zipW_get {f : PyData → PyData → PyData} {as bs : List PyData} {i : Nat} {x y : PyData} (h1 : as[i]? = some x) (h2 : bs[i]? = some y) : (List.zipWith f as bs)[i]? = some (f x y) := by
  rw [List.getElem?_zipWith, h1, h2]
theorem walks_zipL {a b : Addr} {as bs : List PyData} {S : Hp → Hp → Prop} (hS : ∀ H J, Same J H → S H J → ∃ xs ys, SqL K H a xs ∧ SqL K H b ys ∧ ShAll K J xs as ∧ ShAll K J ys bs)
    (hK : ∀ H J T o, Same J H → S H J → H T = none → S (upd H T o) (upd J T o)) : Walks K (Itz K a b) (List.zipWith (fun x y => .tuple [x, y]) as bs) S where
  go := fun i H J sm s h => by
    obtain ⟨xs, ys, h1, h2, h3, h4⟩ := hS H J sm s
    rw [List.length_zipWith] at h
    have hx : i < xs.length := by rw [shsLen h3]; omega
    have hy : i < ys.length := by rw [shsLen h4]; omega
    exact ⟨xs, ys, xs[i], ys[i], h1, h2, by simp [hx], by simp [hy]⟩
  stop := fun i H J sm s h => by
    obtain ⟨xs, ys, h1, h2, h3, h4⟩ := hS H J sm s
    rw [List.length_zipWith] at h
    refine ⟨xs, ys, h1, h2, ?_⟩
    rw [shsLen h3, shsLen h4]
    omega
  yld := fun i H J v H' sm s h y => by
    obtain ⟨T, x, y, rfl, hT, rfl, hx, hy⟩ := y
    obtain ⟨xs, ys, h1, h2, h3, h4⟩ := hS H J sm s
    obtain ⟨dx, e1, q1⟩ := shsGetV h3 (hx xs h1)
    obtain ⟨dy, e2, q2⟩ := shsGetV h4 (hy ys h2)
    have st : Step (fun _ => False) H J (fun _ => False) (upd H T (.tup [x, y])) (upd J T (.tup [x, y])) := step_new sm hT
    exact ⟨upd J T (.tup [x, y]), .tuple [dx, dy], zipW_get e1 e2, .tup upd_same (.cons (shMono st.js q1) (.cons (shMono st.js q2) .nil)), same_upd2 sm, hK H J T _ sm s hT, st⟩
theorem walks_zipT {a b : Addr} {as bs : List PyData} {S : Hp → Hp → Prop} (hS : ∀ H J, Same J H → S H J → ∃ xs ys, SqT K H a xs ∧ SqT K H b ys ∧ ShAll K J xs as ∧ ShAll K J ys bs)
    (hK : ∀ H J T o, Same J H → S H J → H T = none → S (upd H T o) (upd J T o)) : Walks K (RZ.ItzT K a b) (List.zipWith (fun x y => .tuple [x, y]) as bs) S where
  go := fun i H J sm s h => by
    obtain ⟨xs, ys, h1, h2, h3, h4⟩ := hS H J sm s
    rw [List.length_zipWith] at h
    have hx : i < xs.length := by rw [shsLen h3]; omega
    have hy : i < ys.length := by rw [shsLen h4]; omega
    exact ⟨xs, ys, xs[i], ys[i], h1, h2, by simp [hx], by simp [hy]⟩
  stop := fun i H J sm s h => by
    obtain ⟨xs, ys, h1, h2, h3, h4⟩ := hS H J sm s
    rw [List.length_zipWith] at h
    refine ⟨xs, ys, h1, h2, ?_⟩
    rw [shsLen h3, shsLen h4]
    omega
  yld := fun i H J v H' sm s h y => by
    obtain ⟨T, x, y, rfl, hT, rfl, hx, hy⟩ := y
    obtain ⟨xs, ys, h1, h2, h3, h4⟩ := hS H J sm s
    obtain ⟨dx, e1, q1⟩ := shsGetV h3 (hx xs h1)
    obtain ⟨dy, e2, q2⟩ := shsGetV h4 (hy ys h2)
    have st : Step (fun _ => False) H J (fun _ => False) (upd H T (.tup [x, y])) (upd J T (.tup [x, y])) := step_new sm hT
    exact ⟨upd J T (.tup [x, y]), .tuple [dx, dy], zipW_get e1 e2, .tup upd_same (.cons (shMono st.js q1) (.cons (shMono st.js q2) .nil)), same_upd2 sm, hK H J T _ sm s hT, st⟩
theorem enumL_len : ∀ (ds : List PyData) (k : Nat), (enumL k ds).length = ds.length
  | [], _ => rfl
  | d :: ds, k => by simp [enumL, enumL_len ds]
theorem enumL_get : ∀ {ds : List PyData} {i k : Nat} {d : PyData}, ds[i]? = some d → (enumL k ds)[i]? = some (.tuple [.int ((k + i : Nat) : Int), d])
  | d :: ds, 0, k, e, h => by simp at h; subst h; rfl
  | d :: ds, i + 1, k, e, h => by
    have := enumL_get (k := k + 1) (i := i) (show ds[i]? = some e by simpa using h)
    rw [show k + 1 + i = k + (i + 1) by omega] at this
    exact this
theorem walks_enum {a : Addr} {as : List PyData} {S : Hp → Hp → Prop} (hS : ∀ H J, Same J H → S H J → ∃ xs, SqL K H a xs ∧ ShAll K J xs as)
    (hK : ∀ H J T o, Same J H → S H J → H T = none → S (upd H T o) (upd J T o)) : Walks K (Ite K a) (enumL 0 as) S where
  go := fun i H J sm s h => by
    obtain ⟨xs, h1, h3⟩ := hS H J sm s
    rw [enumL_len] at h
    have hx : i < xs.length := by rw [shsLen h3]; omega
    exact ⟨xs, xs[i], h1, by simp [hx]⟩
  stop := fun i H J sm s h => by
    obtain ⟨xs, h1, h3⟩ := hS H J sm s
    rw [enumL_len] at h
    exact ⟨xs, h1, by rw [shsLen h3]; omega⟩
  yld := fun i H J v H' sm s h y => by
    obtain ⟨T, x, rfl, hT, rfl, hx⟩ := y
    obtain ⟨xs, h1, h3⟩ := hS H J sm s
    obtain ⟨dx, e1, q1⟩ := shsGetV h3 (hx xs h1)
    have st : Step (fun _ => False) H J (fun _ => False) (upd H T (.tup [.int (i : Nat), x])) (upd J T (.tup [.int (i : Nat), x])) := step_new sm hT
    have e2 := enumL_get (k := 0) e1
    rw [Nat.zero_add] at e2
    exact ⟨upd J T (.tup [.int (i : Nat), x]), .tuple [.int (i : Int), dx], e2, .tup upd_same (.cons (.int _) (.cons (shMono st.js q1) .nil)), same_upd2 sm, hK H J T _ sm s hT, st⟩
theorem prsI_some {z : Bool} {xs l : List PyData} (h : prsI z xs = some l) : (∃ a b, z = true ∧ xs = [.list a, .list b] ∧ a.length ≤ 16777216 ∧ l = List.zipWith (fun x y => .tuple [x, y]) a b) ∨ (∃ a b, z = true ∧ xs = [.tuple a, .tuple b] ∧ a.length ≤ 16777216 ∧ l = List.zipWith (fun x y => .tuple [x, y]) a b) ∨
    (∃ a, z = false ∧ xs = [.list a] ∧ a.length ≤ 16777216 ∧ l = enumL 0 a) := by
  unfold prsI at h
  split at h
  · split at h
    · cases h; exact .inl ⟨_, _, rfl, rfl, of_decide_eq_true (by assumption), rfl⟩
    · cases h
  · split at h
    · cases h; exact .inr (.inl ⟨_, _, rfl, rfl, of_decide_eq_true (by assumption), rfl⟩)
    · cases h
  · split at h
    · cases h; exact .inr (.inr ⟨_, rfl, rfl, of_decide_eq_true (by assumption), rfl⟩)
    · cases h
  · cases h
theorem lock_reads {es : CEs} {sel : List PyData → Option (List PyData)} {J : Hp} {r : Ro} {fp : Nat → List Addr} {Q : It → Hp → Prop} {RR : List V → Hp → Prop} (w : Wf K H J sg r fp)
    (f : FinI K W sg H J fp ((rds Phi es r).bind fun x r1 => match lks x r1 with
      | some (ds, ls, r2) => (match sel ds with
        | some l => R.ok (l, ls) r2
        | none => .bad)
      | none => .bad) Q)
    (hR : ∀ vs ds H1 J1 g l, Same J1 H1 → Stds K g H1 J1 vs ds → sel ds = some l → (∀ T S, Walks K T l S → S H1 J1 → Keeps g S → l.length ≤ sizeLine → Q T H1) → RR vs H1) : seqOpd K W (rd1 Phi) es sg H RR := by
  refine seqOpd_of es w ?_
  rw [rds_many] at f
  cases e : many (rd1 Phi) es r with
  | bad => rw [e] at f; exact f
  | ex c fs r1 => rw [e] at f; exact f
  | ok x r1 =>
    rw [e] at f
    simp only [R.ok_bind] at f
    intro vs H1 J1 fp1 gs w1 o1 t1
    obtain rfl := o1.plain (rd1_plain e)
    cases el : lks x r1 with
    | none => rw [el] at f; exact f.elim
    | some p =>
      obtain ⟨ds, ls, r2⟩ := p
      rw [el] at f
      simp only at f
      obtain ⟨fp2, g, w2, lk, st, ow⟩ := lks_ok w1 o1 (rd1_plain e) el
      cases es : sel ds with
      | none => rw [es] at f; exact f.elim
      | some l =>
        rw [es] at f
        exact hR vs ds H1 J1 g l w1.same st es fun T S wk s kp hl => f T S H1 J1 fp2 g w2 wk s kp lk hl ((step_nil t1).weak fun b z => ow b z)
theorem Stds.two {g : List Addr} {vs : List V} {d1 d2 : PyData} (h : Stds K g H J vs [d1, d2]) : ∃ v1 v2, vs = [v1, v2] ∧ Std K g H J v1 d1 ∧ Std K g H J v2 d2 := by
  cases h with
  | cons a t =>
    cases t with
    | cons b t => cases t; exact ⟨_, _, rfl, a, b⟩
theorem Stds.one {g : List Addr} {vs : List V} {d1 : PyData} (h : Stds K g H J vs [d1]) : ∃ v1, vs = [v1] ∧ Std K g H J v1 d1 := by
  cases h with
  | cons a t => cases t; exact ⟨_, rfl, a⟩
theorem zip_read {es : CEs} {Q : It → Hp → Prop} (h : tI K W Phi (.prs true es) sg H Q) : RZ.iZipA K (seqOpd K W (rd1 Phi) es) sg H Q := by
  obtain ⟨J, r, fp, w, f⟩ := h
  simp only [evI] at f
  refine lock_reads w f fun vs ds H1 J1 g l sm st ep q => ?_
  rcases prsI_some ep with ⟨as, bs, _, rfl, hl, rfl⟩ | ⟨as, bs, _, rfl, hl, rfl⟩ | ⟨_, z, _⟩
  · obtain ⟨v1, v2, rfl, s1, s2⟩ := st.two
    obtain ⟨a, xs, rfl, a1, a2⟩ := s1.list sm
    obtain ⟨b, ys, rfl, b1, b2⟩ := s2.list sm
    refine ⟨a, b, xs, ys, rfl, .inl ⟨a1, b1, ?_⟩⟩
    refine q (Itz K a b) (fun H J => Std K g H J (.ref a) (.list as) ∧ Std K g H J (.ref b) (.list bs)) (walks_zipL (fun H J sm s => ?_) fun H J T o sm s hT => ?_) ⟨s1, s2⟩ (fun F F' H J H' J' s t n => ⟨s.1.keep t n, s.2.keep t n⟩) ?_
    · obtain ⟨_, xs, e, c1, c2⟩ := s.1.list sm
      cases e
      obtain ⟨_, ys, e, d1, d2⟩ := s.2.list sm
      cases e
      exact ⟨xs, ys, c1, d1, c2, d2⟩
    · have st : Step (fun _ => False) H J (fun _ => False) (upd H T o) (upd J T o) := step_new sm hT
      exact ⟨s.1.keep st fun _ _ => id, s.2.keep st fun _ _ => id⟩
    · rw [List.length_zipWith, sizeLine_eq]
      omega
  · obtain ⟨v1, v2, rfl, s1, s2⟩ := st.two
    obtain ⟨a, xs, rfl, a1, a2⟩ := s1.tuple sm
    obtain ⟨b, ys, rfl, b1, b2⟩ := s2.tuple sm
    refine ⟨a, b, xs, ys, rfl, .inr ⟨a1, b1, ?_⟩⟩
    refine q (RZ.ItzT K a b) (fun H J => Std K g H J (.ref a) (.tuple as) ∧ Std K g H J (.ref b) (.tuple bs)) (walks_zipT (fun H J sm s => ?_) fun H J T o sm s hT => ?_) ⟨s1, s2⟩ (fun F F' H J H' J' s t n => ⟨s.1.keep t n, s.2.keep t n⟩) ?_
    · obtain ⟨_, xs, e, c1, c2⟩ := s.1.tuple sm
      cases e
      obtain ⟨_, ys, e, d1, d2⟩ := s.2.tuple sm
      cases e
      exact ⟨xs, ys, c1, d1, c2, d2⟩
    · have st : Step (fun _ => False) H J (fun _ => False) (upd H T o) (upd J T o) := step_new sm hT
      exact ⟨s.1.keep st fun _ _ => id, s.2.keep st fun _ _ => id⟩
    · rw [List.length_zipWith, sizeLine_eq]
      omega
  · cases z
theorem enum_read {es : CEs} {Q : It → Hp → Prop} (h : tI K W Phi (.prs false es) sg H Q) : iEnum K (seqOpd K W (rd1 Phi) es) sg H Q := by
  obtain ⟨J, r, fp, w, f⟩ := h
  simp only [evI] at f
  refine lock_reads w f fun vs ds H1 J1 g l sm st ep q => ?_
  rcases prsI_some ep with ⟨_, _, z, _⟩ | ⟨_, _, z, _⟩ | ⟨as, _, rfl, hl, rfl⟩
  · cases z
  · cases z
  · obtain ⟨v1, rfl, s1⟩ := st.one
    obtain ⟨a, xs, rfl, a1, a2⟩ := s1.list sm
    refine ⟨a, xs, rfl, a1, ?_⟩
    refine q (Ite K a) (fun H J => Std K g H J (.ref a) (.list as)) (walks_enum (fun H J sm s => ?_) fun H J T o sm s hT => ?_) s1 (fun F F' H J H' J' s t n => s.keep t n) ?_
    · obtain ⟨_, xs, e, c1, c2⟩ := s.list sm
      cases e
      exact ⟨xs, c1, c2⟩
    · have st : Step (fun _ => False) H J (fun _ => False) (upd H T o) (upd J T o) := step_new sm hT
      exact s.keep st fun _ _ => id
    · rw [enumL_len, sizeLine_eq]
      omega
end
end Ev
end

section
set_option Elab.async false
set_option linter.all false
set_option maxRecDepth 100000
set_option maxHeartbeats 4000000
namespace Ev
open PySem L2
variable [Errs]

def isBO : Expr → Bool
  | .BoolOp _ _ _ => true
  | _ => false
def plainT : Expr → Bool
  | .UnaryOp .Not _ _ => false
  | .BoolOp _ _ _ => false
  | .IfExp _ _ _ _ => false
  | .Compare _ _ _ _ => false
  | _ => true
theorem plainT_ok {e : Expr} {env : Env} (h : plainT e = true) : ∀ whole, isTrue e env whole = (do let v ← whole; standAt e.pos; holding [v] (truthy v)) := by
  intro whole
  cases e <;> first | rfl | (simp [plainT] at h; done) | skip
  rename_i op x p
  cases op <;> first | rfl | (simp [plainT] at h)
section
variable {P : Prg} {N : List Str} {k : Nat} {Phi : Nat → Ro → FR}
/-- as a value, as a test, as a test within and / or -/
def Snd (P : Prg) (Phi : Nat → Ro → FR) (X : Cx) (W : WX) (c : CE) (e : Expr) : Prop :=
  PE X e (tEv X.K W Phi c) ∧ PT X e (tTr X.K W Phi c) ∧ (isBO e = true → PW X e (tTr X.K W Phi c))
theorem Snd.of {X : Cx} {W : WX} {c : CE} {e : Expr} (h : PE X e (tEv X.K W Phi c)) (hp : plainT e = true) : Snd P Phi X W c e := by
  refine ⟨h, PT.imp (pt_val h (plainT_ok hp)) fun sg H Q q => tr_ev q, fun z => ?_⟩
  cases e <;> simp [isBO] at z
  simp [plainT] at hp
theorem PW.imp {X : Cx} {e : Expr} {t t' : TT} (h : PW X e t) (i : ∀ sg H Q, t' sg H Q → t sg H Q) : PW X e t' := ⟨fun wh pins s sg H Q I q => h.run wh pins s sg H Q I (i sg H Q q)⟩
/-- what a slice's operands are to be -/
def slQ (K : PySem.W.Frag) (Q : V → Hp → Prop) (bl bh : Bool) (vs : List V) (H : Hp) : Prop := match bl, bh, vs with
  | true, false, [v, u] => ∃ i, u = .int i ∧ rCut K v (some i) none H Q
  | false, true, [v, u] => ∃ i, u = .int i ∧ rCut K v none (some i) H Q
  | true, true, [v, u, z] => ∃ i, u = .int i ∧ ∃ j, z = .int j ∧ rCut K v (some i) (some j) H Q
  | _, _, _ => False
theorem slQ_of {K : PySem.W.Frag} {H : Hp} {Q : V → Hp → Prop} {bl bh : Bool} {vs : List V} (r : rPrim K (.sl bl bh) vs H Q) : slQ K Q bl bh vs H := by
  have hlen : ∀ {vs : List V} {ds : List PyData} {J : Hp}, Vws K H J vs ds → vs.length = ds.length := by
    intro vs ds J h
    induction h with
    | nil => rfl
    | cons _ _ ih => simp [ih]
  have r0 := r
  obtain ⟨J, ds, t, sm, vw, hp, q⟩ := r0
  have hl := hlen vw
  rcases pSl_some (show pSl bl bh ds = some t from hp) with ⟨d, i, rfl, rfl, rfl, hc⟩ | ⟨d, i, rfl, rfl, rfl, hc⟩ | ⟨d, i, j, rfl, rfl, rfl, hc⟩
  · match vs, hl with
    | [v, u], _ => exact sl_lo r
  · match vs, hl with
    | [v, u], _ => exact sl_hi r
  · match vs, hl with
    | [v, u, z], _ => exact sl_lohi r
def revQ (K : PySem.W.Frag) (Q : V → Hp → Prop) (vs : List V) (H : Hp) : Prop := match vs with
  | [v] => ∃ a xs, v = .ref a ∧ ((SqL K H a xs ∧ ∀ p, H p = none → Q (.ref p) (upd H p (.lst xs.reverse))) ∨ (SqT K H a xs ∧ ∀ p, H p = none → Q (.ref p) (upd H p (.tup xs.reverse))))
  | _ => False
theorem revQ_of {K : PySem.W.Frag} {H : Hp} {Q : V → Hp → Prop} {vs : List V} (r : rPrim K .rev vs H Q) : revQ K Q vs H := by
  have r0 := r
  obtain ⟨J, ds, t, sm, vw, hp, q⟩ := r0
  have hp : pRev ds = some t := hp
  unfold pRev at hp
  split at hp
  · obtain ⟨v, rfl, _⟩ := vw.one
    exact rev_l r
  · obtain ⟨v, rfl, _⟩ := vw.one
    exact rev_l r
  · cases hp
theorem slForm_ok {o : Op} {a b : Expr} {l : List Expr} (h : slForm o a b = some l) : (∃ x p, o = .sl true false ∧ b = .Slice (some x) none none p ∧ l = [a, x]) ∨ (∃ x p, o = .sl false true ∧ b = .Slice none (some x) none p ∧ l = [a, x]) ∨
    (∃ k p1 p2 p3, o = .rev ∧ b = .Slice none none (some (.UnaryOp .USub (.Constant (.int 1) k p1) p2)) p3 ∧ l = [a]) := by
  unfold slForm at h
  split at h
  · cases h; exact .inl ⟨_, _, rfl, rfl, rfl⟩
  · cases h; exact .inr (.inl ⟨_, _, rfl, rfl, rfl⟩)
  · cases h; exact .inr (.inr ⟨_, _, _, _, rfl, rfl, rfl⟩)
  · cases h
theorem slForm_ne {o : Op} {a b : Expr} (h : slForm o a b = some []) : False := by
  rcases slForm_ok h with ⟨_, _, _, _, e⟩ | ⟨_, _, _, _, e⟩ | ⟨_, _, _, _, _, _, e⟩ <;> cases e
theorem isiForm_ok {sc : Scope} {o : Op} {x : Str} {a : Expr} {as l : List Expr} (h : isiForm sc o x a as = some l) : ∃ t, o = .isi t ∧ x = "isinstance" ∧ l = [a] ∧ isG sc "isinstance" = true ∧ isG sc (Str.ofString t) = true ∧ tyOk t = true ∧ ∃ p, as = [.Name (Str.ofString t) p] := by
  unfold isiForm at h
  split at h
  · rename_i t ht
    split at h
    · rename_i hc
      cases h
      simp only [Bool.and_eq_true, decide_eq_true_eq] at hc
      obtain ⟨⟨⟨⟨rfl, h2⟩, h3⟩, h4⟩, h5⟩ := hc
      refine ⟨t, ?_, rfl, rfl, h3, h4, h5, ?_⟩
      · cases o <;> first | (cases ht; rfl) | cases ht
      · match as, h2 with
        | [y], h2 =>
          simp only [List.map_cons, List.map_nil, List.cons.injEq, and_true] at h2
          cases y <;> simp only [nameOf] at h2 <;> first | (cases h2; exact ⟨_, rfl⟩) | cases h2
        | [], h2 => cases h2
        | _ :: _ :: _, h2 => simp at h2
    · cases h
  · cases h
theorem notSet {c : CE} {sc : Scope} {e : Expr} (h : okE P.tx N sc c e = true) : isSet e = false := by
  cases e <;> first | rfl | (cases c <;> simp [okE, opForm, mthd, badE] at h)
theorem notSetI {it : CI} {sc : Scope} {tg e : Expr} (h : okI P.tx N sc tg it e = true) : isSet e = false := by
  cases it with
  | prs z es => cases z <;> cases e <;> first | rfl | (simp [okI] at h)
  | seq c => simp only [okI] at h; exact notSet h
  | rng1 c => cases e <;> first | rfl | (simp [okI] at h)
  | rng2 c d => cases e <;> first | rfl | (simp [okI] at h)
theorem foldS {e : Expr} {env : Env} (h : isSet e = false) : ∀ x, foldedSetIterable e env x = pure x := by
  intro x
  cases e <;> first | rfl | (simp [isSet] at h)
theorem lastM {op op' : CmpOp} {b c : Expr} (h : isSet c = false) : lastMarks [op, op'] [b, c] = false := by
  show behindInMarks op' c = false
  exact noset h

theorem okI_rng1 {c : CE} {sc : Scope} {tg e : Expr} (h : okI P.tx N sc tg (.rng1 c) e = true) : ∃ p a pos, e = .Call (.Name "range" p) [a] [] pos ∧ isG sc "range" = true ∧ okE P.tx N sc c a = true := by
  unfold okI at h
  split at h <;> first | (rename_i q; cases q; done) | skip
  · rename_i x _ a _ q
    cases q
    simp only [Bool.and_eq_true, decide_eq_true_eq] at h
    obtain ⟨⟨rfl, h1⟩, h2⟩ := h
    exact ⟨_, a, _, rfl, h1, h2⟩
  · cases h
theorem okI_rng2 {c d : CE} {sc : Scope} {tg e : Expr} (h : okI P.tx N sc tg (.rng2 c d) e = true) : ∃ p a b pos, e = .Call (.Name "range" p) [a, b] [] pos ∧ isG sc "range" = true ∧ okE P.tx N sc c a = true ∧ okE P.tx N sc d b = true := by
  unfold okI at h
  split at h <;> first | (rename_i q; cases q; done) | skip
  · rename_i x _ a b _ q
    cases q
    simp only [Bool.and_eq_true, decide_eq_true_eq] at h
    obtain ⟨⟨⟨rfl, h1⟩, h2⟩, h3⟩ := h
    exact ⟨_, a, b, _, rfl, h1, h2, h3⟩
  · cases h
theorem isTup_ok {e : Expr} (h : isTup e = true) : ∃ l k p, e = .Tuple l k p := by
  cases e <;> first | exact ⟨_, _, _, rfl⟩ | (simp [isTup] at h)
theorem okI_zip {es : CEs} {sc : Scope} {tg e : Expr} (h : okI P.tx N sc tg (.prs true es) e = true) : ∃ p a b pos, e = .Call (.Name "zip" p) [a, b] [] pos ∧ isG sc "zip" = true ∧ isTup tg = true ∧ okEs P.tx N sc es [a, b] = true := by
  unfold okI at h
  split at h <;> first | (rename_i q; cases q; done) | skip
  · rename_i x _ a b _ q
    cases q
    simp only [Bool.and_eq_true, decide_eq_true_eq] at h
    obtain ⟨⟨⟨rfl, h1⟩, h2⟩, h3⟩ := h
    exact ⟨_, a, b, _, rfl, h1, h2, h3⟩
  · cases h
theorem okI_enum {es : CEs} {sc : Scope} {tg e : Expr} (h : okI P.tx N sc tg (.prs false es) e = true) : ∃ p a pos, e = .Call (.Name "enumerate" p) [a] [] pos ∧ isG sc "enumerate" = true ∧ isTup tg = true ∧ okEs P.tx N sc es [a] = true := by
  unfold okI at h
  split at h <;> first | (rename_i q; cases q; done) | skip
  · rename_i x _ a _ q
    cases q
    simp only [Bool.and_eq_true, decide_eq_true_eq] at h
    obtain ⟨⟨⟨rfl, h1⟩, h2⟩, h3⟩ := h
    exact ⟨_, a, _, rfl, h1, h2, h3⟩
  · cases h

theorem tOpd_mono {K : PySem.W.Frag} {W : WX} {f1 : CE → Ro → R Od} {c : CE} {sg : St} {H : Hp} {Q Q' : V → Hp → Prop} (h : ∀ v H', Q v H' → Q' v H') (t : tOpd K W f1 c sg H Q) : tOpd K W f1 c sg H Q' := by
  obtain ⟨J, r, fp, w, f⟩ := t
  refine ⟨J, r, fp, w, ?_⟩
  cases e : f1 c r with
  | bad => rw [e] at f; exact f
  | ex _ _ _ => rw [e] at f; exact f
  | ok a r1 => rw [e] at f; exact fun v H' J' fp' g w q t => h v H' (f v H' J' fp' g w q t)
theorem isc_one {K : PySem.W.Frag} {cs : List Nat} {vs : List V} {H : Hp} {Q : VK} (h : rPrim K (.isc cs) vs H Q) : ∃ x, vs = [x] := by
  obtain ⟨J, ds, t, sm, vw, hp, q⟩ := h
  have hp : pIsc cs ds = some t := hp
  have hl : ∃ d, ds = [d] := by
    unfold pIsc at hp
    split at hp <;> first | exact ⟨_, rfl⟩ | cases hp
  obtain ⟨d, rfl⟩ := hl
  obtain ⟨v, rfl, _⟩ := vw.one
  exact ⟨v, rfl⟩
theorem fld_one {K : PySem.W.Frag} {f : String} {vs : List V} {H : Hp} {Q : VK} (h : rPrim K (.fld f) vs H Q) : ∃ x, vs = [x] := by
  obtain ⟨J, ds, t, sm, vw, hp, q⟩ := h
  obtain ⟨c, fs, y, rfl, _⟩ := pFld_some (show pFld f ds = some t from hp)
  obtain ⟨v, rfl, _⟩ := vw.one
  exact ⟨v, rfl⟩
theorem clsName_ok {X : Cx} {sc : Scope} {fb : Str → Bool} {y : Str} {p : Pos} {v : V} {cv : Value} (g : Good P N k Phi X sc fb) (hg : isG sc y = true) (rv : RelV v cv) (hm : X.mg y = some cv ∨ (X.mg y = none ∧ bootBuiltins y = some cv ∧ y ≠ "__name__")) : PE X (.Name y p) (tC v) := by
  obtain ⟨h1, h2⟩ := isG_ok g hg
  rcases hm with hm | ⟨hm, hb, hn⟩
  · exact pe_glob h1 hm rv h2
  · exact pe_bltn h1 hm hb rv hn h2
/-- some values, told -/
def tVals : List V → TA
  | [] => tNil
  | v :: vs => tCons (tC v) (tVals vs)
theorem tVals_of : ∀ {vs : List V} {sg : St} {H : Hp} {Q : List V → Hp → Prop}, Q vs H → tVals vs sg H Q
  | [], _, _, _, q => q
  | v :: vs, sg, H, Q, q => by
    show tVals vs sg H fun xs H2 => Q (v :: xs) H2
    exact tVals_of q
theorem clsAll_ok {X : Cx} {sc : Scope} {fb : Str → Bool} (g : Good P N k Phi X sc fb) : ∀ {l : List Expr} {cs : List Nat}, clsAll P.tx sc l = some cs → ∃ vs us, ClsKs X.K vs us cs ∧ PA X l (tVals vs) ∧ vs.length = l.length
  | [], cs, h => by simp only [clsAll] at h; cases h; exact ⟨[], [], .nil, pa_nil, rfl⟩
  | e :: l, cs, h => by
    unfold clsAll at h
    split at h <;> first | (rename_i q; cases q; done) | skip
    · rename_i x p l' q
      cases q
      split at h
      · rename_i hg
        cases e1 : P.tx.clss.lookup x with
        | none => rw [e1] at h; cases h
        | some a =>
          cases e2 : clsAll P.tx sc l with
          | none => rw [e1, e2] at h; cases h
          | some b =>
            rw [e1, e2] at h
            cases h
            obtain ⟨vs, us, h1, h2, h3⟩ := clsAll_ok g e2
            obtain ⟨v, cv, hv, rv, hm, hck, _⟩ := g.ers.cl x a e1
            exact ⟨v :: vs, cv :: us, .cons hv hck h1, pa_cons (clsName_ok g hg rv hm) h2 rfl, by simp [h3]⟩
      · cases h
    · cases h

mutual
theorem sound : ∀ (c : CE) {X : Cx} {sc : Scope} {fb : Str → Bool} {W : WX} {e : Expr}, Good P N k Phi X sc fb → Takes X W → okE P.tx N sc c e = true → Snd P Phi X W c e
  | .var i, X, sc, fb, W, e, g, tk, h => by
    cases e <;> try simp only [okE, Bool.false_eq_true] at h
    exact Snd.of (soundVar g h) rfl
  | .ref i, X, sc, fb, W, e, g, tk, h => by
    cases e <;> try simp only [okE, Bool.false_eq_true] at h
    exact Snd.of (PE.imp (isV_ok g h) fun sg H Q ⟨J, r, fp, w, f⟩ => by simp only [ev] at f; exact f.elim) rfl
  | .shr i, X, sc, fb, W, e, g, tk, h => by
    cases e <;> try simp only [okE, Bool.false_eq_true] at h
    exact Snd.of (soundShr g h) rfl
  | .dnew t, X, sc, fb, W, e, g, tk, h => by
    unfold okE at h
    split at h <;> first | (rename_i q; cases q; done) | skip
    all_goals first | (cases h; done) | skip
    rename_i q
    cases q
    refine Snd.of ?_ rfl
    have fin : ∀ {sg : St} {H J : Hp} {r : Ro} {fp : Nat → List Addr} {Q : V → Hp → Prop} {ho : HO}, Wf X.K H J sg r fp → Fin X.K W (RepS X.K) sg H J fp (.ok (.dct t []) r) Q → DRep X.K J ho t [] → ∀ p, H p = none → Q (.ref p) (upd H p ho) := by
      intro sg H J r fp Q ho w f hd p hp
      have jp : J p = none := by
        cases e : J p with
        | none => rfl
        | some o => rw [w.same _ _ e] at hp; cases hp
      refine f (.ref p) _ J fp [p] (w.newOwn hp) ⟨p, ho, rfl, rfl, upd_same, hd⟩ (fun b z => ?_) ((step_own hp).weak fun b z => z.imp id List.mem_singleton.mp)
      cases List.mem_singleton.mp z
      refine ⟨jp, fun ⟨j, y⟩ => ?_⟩
      obtain ⟨_, o, ho⟩ := w.jn j _ y
      rw [hp] at ho; cases ho
    cases t with
    | false => exact PE.imp pe_dnewK fun sg H Q ⟨J, r, fp, w, f⟩ => fin w (by simp only [ev] at f; exact f) ⟨[], rfl, rfl, .nil⟩
    | true => exact PE.imp pe_dnewT fun sg H Q ⟨J, r, fp, w, f⟩ => fin w (by simp only [ev] at f; exact f) ⟨[], rfl, rfl, .nil⟩
  | .xop o es, X, sc, fb, W, e, g, tk, h => by
    unfold okE at h
    split at h <;> first | (rename_i q; cases q; done) | skip
    all_goals first | (cases h; done) | skip
    · rename_i _ cs c x p1 a kx pos q
      cases q
      simp only [Bool.and_eq_true, decide_eq_true_eq] at h
      obtain ⟨⟨⟨rfl, hg⟩, hc⟩, hk⟩ := h
      obtain ⟨h1, h2⟩ := isG_ok g hg
      have oa := PE.opd g hc (sound c g tk hc).1
      have s1 := star_ok (env := X.env) (es := [kx]) (okE_star hc)
      unfold clsForm at hk
      split at hk
      · rename_i y p2
        simp only [Bool.and_eq_true, decide_eq_true_eq] at hk
        obtain ⟨hg2, hl⟩ := hk
        obtain ⟨v, cv, hv, rv, hm, hck, _⟩ := g.ers.cl y cs hl
        exact Snd.of (PE.imp (pe_callB (pm_isc g.ers.ex hck) h1 (g.blt _ (by simp [bnames])) (by decide +kernel) (pa_cons oa (pa_cons (clsName_ok (p := p2) g hg2 rv hm) pa_nil rfl) s1) (by decide) h2 s1 rfl)
          fun sg H Q q => op_readR (RR := fun vs H2 => ∃ x c, vs ++ [v] = [x, c] ∧ ClsV c cv ∧ rPrim X.K (.isc cs) [x] H2 Q) (xop_op q) fun vs H2 r => by
            obtain ⟨x, rfl⟩ := isc_one r
            exact ⟨x, v, rfl, hv, r⟩) rfl
      · rename_i l kk p2
        simp only [Bool.and_eq_true, decide_eq_true_eq] at hk
        obtain ⟨vs0, us0, hks, hpa, hlen⟩ := clsAll_ok g hk.1
        exact Snd.of (PE.imp (pe_callB (pm_iscT g.ers.ex hks) h1 (g.blt _ (by simp [bnames])) (by decide +kernel) (pa_cons oa (pa_cons (pe_tup hpa) pa_nil rfl) s1) (by decide) h2 s1 rfl)
          fun sg H Q q => op_readR (RR := fun vs H2 => tVals vs0 sg H2 fun xs H3 => xs.length ≤ sizeLine ∧ ∀ p, H3 p = none → ∃ (x : V) (tp : Addr), vs ++ [V.ref p] = [x, V.ref tp] ∧ (upd H3 p (.tup xs)) tp = some (.tup vs0) ∧ rPrim X.K (.isc cs) [x] (upd H3 p (.tup xs)) Q) (xop_op q) fun vs H2 r => by
            obtain ⟨x, rfl⟩ := isc_one r
            refine tVals_of ⟨by rw [hlen, sizeLine_eq]; omega, fun p hp => ⟨x, p, rfl, upd_same, r.new hp⟩⟩) rfl
      · cases hk
    · rename_i _ f c a n pos q
      cases q
      simp only [Bool.and_eq_true, decide_eq_true_eq, Bool.not_eq_true'] at h
      obtain ⟨⟨⟨rfl, hc⟩, hn⟩, hf⟩ := h
      have oa := PE.opd g hc (sound c g tk hc).1
      refine Snd.of (PE.imp (pe_errfld (pos := pos) g.ers.ex (fun c hc => g.ers.fld c hc f hf) oa ?_) fun sg H Q q => op_read (xop_op q)) rfl
      cases a <;> first | rfl | (simp [isCall] at hn)
    · rename_i _ c x p1 a kk p0 pc pk p2 q
      cases q
      simp only [Bool.and_eq_true, decide_eq_true_eq] at h
      obtain ⟨⟨⟨rfl, hg⟩, rfl⟩, hc⟩ := h
      obtain ⟨h1, h2⟩ := isG_ok g hg
      have oa := PE.opd g hc (sound c g tk hc).1
      have s1 := star_ok (env := X.env) (es := []) (okE_star hc)
      have hu : X.A.units + 65 < cLine := by have := g.room.un; omega
      exact Snd.of (PE.imp (pe_callBK (ks := [Str.ofString "default"]) (pm_maxd g.calm hu) h1 (g.blt _ (by simp [bnames])) (by decide +kernel) (pa_cons oa pa_nil s1) (pk_cons pe_non pk_nil) (by decide) h2 (by rw [s1]; rfl) (by rw [s1]; rfl) rfl rfl rfl)
        fun sg H Q q => op_readR (RR := fun vs H2 => [V.non] = [V.non] ∧ rPrim X.K .maxd vs H2 Q) (xop_op q) fun vs H2 r => ⟨rfl, r⟩) rfl
    · rename_i _ c x p1 y p2 a p3 p4 q
      cases q
      simp only [Bool.and_eq_true, decide_eq_true_eq] at h
      obtain ⟨⟨⟨⟨rfl, hg⟩, rfl⟩, hg2⟩, hc⟩ := h
      obtain ⟨h1, h2⟩ := isG_ok g hg
      obtain ⟨h3, h4⟩ := isG_ok g hg2
      have oa := PE.opd g hc (sound c g tk hc).1
      have s1 := star_ok (env := X.env) (es := []) (okE_star hc)
      exact Snd.of (PE.imp (pe_listRg g.calm h1 (g.blt _ (by simp [bnames])) (prg_1 h3 (g.blt _ (by simp [bnames])) oa s1) rfl) fun sg H Q q => op_readR (RR := fun vs H2 => match vs with
        | [v] => ∃ n, v = .int n ∧ RgOk 0 n ∧ ∀ p, H2 p = none → Q (.ref p) (upd H2 p (.lst (rgV 0 n)))
        | _ => False) (xop_op q) fun vs H2 r => by
        obtain ⟨n, rfl, hr, hq⟩ := lrng_of r
        exact ⟨n, rfl, hr, hq⟩) rfl
  | .xnew c f a, X, sc, fb, W, e, g, tk, h => by
    unfold okE at h
    split at h <;> first | (rename_i q; cases q; done) | skip
    all_goals first | (cases h; done) | skip
    rename_i x p1 ea p2 q
    cases q
    simp only [Bool.and_eq_true, decide_eq_true_eq] at h
    obtain ⟨⟨hg, hl⟩, ha⟩ := h
    obtain ⟨h1, h2⟩ := isG_ok g hg
    have s1 := star_ok (env := X.env) (es := []) (okE_star ha)
    have oa := PE.sh (sound a g tk ha).1
    by_cases hf : f = ""
    · subst hf
      obtain ⟨e1, e2, e3, e4, e5, e6⟩ := g.ers.rs x c hl
      refine Snd.of (PE.imp (pe_mk (SkE.pmk_own1 PySem.F.excBase_ValueError e4 e2 e3 (raises_own e5 e6) h1 oa s1 h2)) fun sg H Q ⟨J, r, fp, w, f⟩ => ?_) rfl
      simp only [ev] at f
      refine ⟨J, r, fp, w, Fin.bindD f fun d r1 v1 H1 J1 fp1 ee w1 q1 t1 f1 => fun aa haa => ?_⟩
      have st : Step (fun _ => False) H1 J1 (fun _ => False) (upd H1 aa (XO (.ref (Errs.ca c)) none aa)) (upd J1 aa (XO (.ref (Errs.ca c)) none aa)) := step_new w1.same haa
      exact Fin.prim w1 f1 _ _ (upd J1 aa (XO (.ref (Errs.ca c)) none aa)) [] ⟨rfl, .exc0 e1 upd_same⟩ (fun b z => nomatch z) (st.weak fun _ z => nomatch z) (same_upd2 w1.same)
    · obtain ⟨e1, e2, T, hno, fI, C0, fd, qu, st0, iC, tI, F, S, hfm, B, hb⟩ := g.ers.rf x c f hl hf
      have ps : Passes (L2.CX X.prog X.w) X (fun _ _ _ => False) := by
        intro pins sg H s e s' I h
        obtain ⟨_, _, _, _, _, _, _, _, _, _, _, _, z⟩ := h
        exact z.elim
      refine Snd.of (PE.imp (pe_mk (pmk_oex T iC tI (init_ok F S hfm B) (g.room.mono (by omega)) hb .nil ps h1 e2 (pa_cons oa pa_nil s1) h2 s1 rfl)) fun sg H Q ⟨J, r, fp, w, f1⟩ => ?_) rfl
      simp only [ev, if_neg hf] at f1
      refine ⟨J, r, fp, w, Fin.bindD f1 fun d r1 v1 H1 J1 fp1 ee w1 q1 t1 f2 => ?_⟩
      refine ⟨by show 1 ≤ 1000; decide, fun aa ha => ⟨aa, Errs.ca c, v1, rfl, T, hno, upd_same, fun dx hd hda => ⟨rfl, dx, [(Str.ofString f, v1)], upd_same, ?_, ?_, ?_⟩⟩⟩
      · rw [upd_ne hda, upd_same]
      · rw [upd_ne hda] at hd; exact hd
      · have hd1 : H1 dx = none := by rw [upd_ne hda] at hd; exact hd
        have eh : upd (del (upd (upd (upd H1 aa (exo aa (Errs.ca c) none)) dx (exd dx [(Str.ofString f, v1)])) aa (exo aa (Errs.ca c) (some dx))) aa) dx (.xd [(Str.ofString f, v1)]) = upd H1 dx (.xd [(Str.ofString f, v1)]) := by
          funext b
          by_cases hb1 : b = dx
          · rw [hb1, upd_same, upd_same]
          · rw [upd_ne hb1, upd_ne hb1]
            by_cases hb2 : b = aa
            · rw [hb2, del_same, ha]
            · rw [del_ne hb2, upd_ne hb2, upd_ne hb1, upd_ne hb2]
        rw [eh]
        intro a2 ha2
        have st1 : Step (fun _ => False) H1 J1 (fun _ => False) (upd H1 dx (.xd [(Str.ofString f, v1)])) (upd J1 dx (.xd [(Str.ofString f, v1)])) := step_new w1.same hd1
        have st2 : Step (fun _ => False) (upd H1 dx (.xd [(Str.ofString f, v1)])) (upd J1 dx (.xd [(Str.ofString f, v1)])) (fun _ => False) _ (upd (upd J1 dx (.xd [(Str.ofString f, v1)])) a2 (XO (.ref (Errs.ca c)) (some dx) a2)) := step_new (same_upd2 w1.same) ha2
        have hda2 : dx ≠ a2 := fun z => by rw [← z, upd_same] at ha2; cases ha2
        have hn1 : H1 a2 = none := by rw [upd_ne (Ne.symm hda2)] at ha2; exact ha2
        refine Fin.prim w1 f2 _ _ (upd (upd J1 dx (.xd [(Str.ofString f, v1)])) a2 (XO (.ref (Errs.ca c)) (some dx) a2)) [] ⟨rfl, .exc1 e1 upd_same (by rw [upd_ne hda2, upd_same]) (shMono (st1.trans st2).js q1)⟩ (fun b z => nomatch z) ((st1.trans st2).weak fun _ z => nomatch z) (same_upd2 (same_upd2 w1.same))
  | .sl2 a lo hi, X, sc, fb, W, e, g, tk, h => by
    unfold okE at h
    split at h <;> first | (rename_i q; cases q; done) | skip
    all_goals first | (cases h; done) | skip
    rename_i q
    cases q
    simp only [Bool.and_eq_true] at h
    obtain ⟨⟨ha, hb⟩, hc⟩ := h
    refine Snd.of (PE.imp (pe_slice pm_cut (PE.sh (sound a g tk ha).1) (po_some (PE.sh (sound lo g tk hb).1)) (po_some (PE.sh (sound hi g tk hc).1))) fun sg H Q ⟨J, r, fp, w, f⟩ => ?_) rfl
    simp only [ev] at f
    refine ⟨J, r, fp, w, Fin.bindD f fun d r1 v1 H1 J1 fp1 ee w1 q1 t1 f1 => ⟨J1, r1, fp1, w1, Fin.bindD f1 fun x r2 v2 H2 J2 fp2 ee2 w2 q2 t2 f2 => ?_⟩⟩
    cases x with
    | int i =>
      cases q2
      refine ⟨i, rfl, J2, r2, fp2, w2, Fin.bindD f2 fun y r3 v3 H3 J3 fp3 ee3 w3 q3 t3 f3 => ?_⟩
      cases y with
      | int j =>
        cases q3
        refine ⟨j, rfl, ?_⟩
        cases e : cutP d (some i) (some j) with
        | none => simp only [e] at f3; exact f3.elim
        | some t =>
          simp only [e] at f3
          exact ⟨J3, d, t, w3.same, .inl (shMono t3.js (shMono t2.js q1)), e, Fin.prim w3 f3⟩
      | _ => exact f3.elim
    | _ => exact f2.elim
  | .meth o i es, X, sc, fb, W, e, g, tk, h => by
    unfold okE at h
    split at h <;> first | (rename_i q; cases q; done) | skip
    all_goals first | (cases h; done) | skip
    · rename_i _ c x p1 m ap a cp q
      cases q
      simp only [Bool.and_eq_true, decide_eq_true_eq] at h
      obtain ⟨⟨⟨rfl, hv⟩, hc⟩, hl⟩ := h
      have oa := PE.opd g hc (sound c g tk hc).1
      have s1 := star_ok (env := X.env) (es := []) (okE_star hc)
      have hu : X.A.units + 1 < cLine := by have := g.room.un; omega
      refine Snd.of (PE.imp (pe_dget1 hu (isV_ok g hv) oa ⟨rfl, by rw [s1]; rfl, hl, by rw [s1]; rfl⟩) fun sg H Q q => ?_) rfl
      obtain ⟨v, d0, J, r, e1, sm, vw, e2, hm, sq⟩ := meth_read q
      obtain ⟨t, kvs, rfl⟩ := mTy_get hm e2
      obtain ⟨aa, rfl, isd⟩ := isD_of sm vw
      refine ⟨_, e1, aa, rfl, isd, ?_⟩
      have sq' : tOpd X.K W (rd1 Phi) c sg H fun y H2 => rPrim X.K .get [.ref aa, y] H2 Q := sq
      exact tOpd_mono (fun y H2 z => get1_of z) sq'
    · rename_i _ c d x p1 m ap a b cp q
      cases q
      simp only [Bool.and_eq_true, decide_eq_true_eq] at h
      obtain ⟨⟨⟨⟨rfl, hv⟩, hc⟩, hd⟩, hl⟩ := h
      have oa := PE.opd g hc (sound c g tk hc).1
      have ob := PE.opd g hd (sound d g tk hd).1
      have s2 := star_ok (env := X.env) (es := []) (okE_star hd)
      have s1 := star_ok (env := X.env) (es := [b]) (okE_star hc)
      have hu : X.A.units + 1 < cLine := by have := g.room.un; omega
      refine Snd.of (PE.imp (pe_dget2 hu (isV_ok g hv) oa ob ⟨rfl, by rw [s1, s2]; rfl, hl, by rw [s1, s2]; rfl⟩) fun sg H Q q => ?_) rfl
      obtain ⟨v, d0, J, r, e1, sm, vw, e2, hm, sq⟩ := meth_read q
      obtain ⟨t, kvs, rfl⟩ := mTy_get hm e2
      obtain ⟨aa, rfl, isd⟩ := isD_of sm vw
      refine ⟨_, e1, aa, rfl, isd, ?_⟩
      have sq' : tOpd X.K W (rd1 Phi) c sg H fun y H2 => tOpd X.K W (rd1 Phi) d sg H2 fun z H3 => rPrim X.K .get [.ref aa, y, z] H3 Q := sq
      exact tOpd_mono (fun y H2 z => tOpd_mono (fun y2 H3 z2 => get2_of z2) z) sq'
  | .own c, X, sc, fb, W, e, g, tk, h => by
    simp only [okE, Bool.and_eq_true] at h
    have s1 := sound c g tk h.1
    exact ⟨PE.imp s1.1 fun sg H Q ⟨J, r, fp, w, f⟩ => by simp only [ev] at f; exact f.elim, PT.imp s1.2.1 fun sg H Q ⟨J, r, fp, w, f⟩ => by simp only [ev] at f; exact f.elim, fun z => PW.imp (s1.2.2 z) fun sg H Q ⟨J, r, fp, w, f⟩ => by simp only [ev] at f; exact f.elim⟩
  | .pop i c, X, sc, fb, W, e, g, tk, h => by
    simp only [okE] at h
    split at h
    · rename_i x hx
      obtain ⟨y, p, ap, cp, rfl, hv, hs, hl⟩ := mthd_ok hx
      have he := PE.sh (sound c g tk h).1
      refine Snd.of (PE.imp (meth_list g PySem.F.slot_list_pop PySem.F.type_list_pop mt_popAt' hv hs hl he) fun sg H Q ⟨J, r, fp, w, f⟩ => ?_) rfl
      simp only [ev] at f
      split at f
      · rename_i ds0 ed0
        obtain ⟨v, hv, a, xs0, rfl, hg0, ha0, hd0⟩ := w.rep i _ ed0 (fun z => nomatch z)
        refine ⟨_, hv, .inl ⟨rfl, xs0, .of ha0⟩, J, r, fp, w, Fin.bindD f fun d r1 v1 H1 J1 fp1 ee w1 q t1 f1 => ?_⟩
        clear ee
        split at f1
        · rename_i n ds ed
          obtain ⟨v', hv', a', xs, e1, hg, ha, hd⟩ := w1.rep i _ ed (fun z => nomatch z)
          rw [hv] at hv'
          cases hv'
          cases e1
          cases q
          have mem : a ∈ fp1 i := by rw [hg]; exact List.mem_singleton.mpr rfl
          have hi : i < r1.length := (List.getElem?_eq_some_iff.mp ed).1
          have jn := (w1.jn i a mem).1
          split at f1
          · rename_i j hj
            split at f1
            · rename_i y hy
              obtain ⟨vy, hvy, hsy⟩ := shsGet hd hy
              refine ⟨a, xs, n, j, vy, rfl, rfl, ha, by rw [shsLen hd]; exact hj, hvy, ?_⟩
              have w2 : Wf X.K (upd H1 a (.lst (xs.eraseIdx j))) J1 sg (r1.set i .non) (fpSet fp1 i []) := (w1.drop i).step (step_upd (D := a)) (same_updN w1.same jn) fun b z y => own_wipe_ne w1 mem (by rw [← y]; exact z)
              have w3 := w2.putKeep (i := i) (s := .lst (ds.eraseIdx j)) (v := .ref a) (g := [a]) (by rw [List.length_set]; exact hi) hv ⟨a, _, rfl, rfl, upd_same, shsErase j hd⟩ fun b z => by
                cases List.mem_singleton.mp z
                exact ⟨jn, fun k hk y => own_wipe_ne w1 mem ⟨k, y⟩⟩
              rw [List.set_set] at w3
              refine f1 vy _ J1 _ [] w3 ⟨rfl, hsy⟩ (fun b z => nomatch z) (nil_step ⟨Same.refl _, fun b o q nb => ?_, fun b q => ?_, fun b q => .inl q⟩)
              · rw [upd_ne fun z => nb (by rw [z]; exact ⟨i, mem⟩)]
                exact q
              · rcases own_set q with z | z
                · cases List.mem_singleton.mp z; exact .inl ⟨i, mem⟩
                · exact .inl (own_wipe z)
            · exact f1.elim
          · exact f1.elim
        · exact f1.elim
      · exact f.elim
    · cases h
  | .cst d, X, sc, fb, W, e, g, tk, h => by
    cases e <;> try simp only [okE, Bool.false_eq_true] at h
    rename_i c kk p
    refine Snd.of ?_ rfl
    cases c <;> cases d <;> simp only [cstIs, Bool.false_eq_true] at h
    · exact PE.imp pe_non fun sg H Q ⟨J, r, fp, w, f⟩ => f .non H J fp [] w ⟨rfl, .non⟩ (fun b z => nomatch z) (nil_step Step.refl)
    · rename_i a b
      have h : a = b := by simpa using h
      subst h
      exact PE.imp pe_bl fun sg H Q ⟨J, r, fp, w, f⟩ => f (.bl a) H J fp [] w ⟨rfl, .bl a⟩ (fun b z => nomatch z) (nil_step Step.refl)
    · rename_i a b
      have h : a = b := of_decide_eq_true h
      subst h
      exact PE.imp pe_int fun sg H Q ⟨J, r, fp, w, f⟩ => f (.int a) H J fp [] w ⟨rfl, .int a⟩ (fun b z => nomatch z) (nil_step Step.refl)
    · rename_i a b
      have h : a = b := of_decide_eq_true h
      subst h
      exact PE.imp pe_str fun sg H Q ⟨J, r, fp, w, f⟩ => f (.str a) H J fp [] w ⟨rfl, .str a⟩ (fun b z => nomatch z) (nil_step Step.refl)
  | .glob y d, X, sc, fb, W, e, g, tk, h => by
    cases e <;> try simp only [okE, Bool.false_eq_true] at h
    rename_i x p
    refine Snd.of ?_ rfl
    simp only [Bool.and_eq_true, decide_eq_true_eq] at h
    obtain ⟨⟨rfl, hg⟩, hc⟩ := h
    obtain ⟨h1, h2⟩ := isG_ok g hg
    split at hc
    · rename_i j hj
      obtain ⟨u, hu, t, rfl⟩ := g.csts _ _ hj
      cases d <;> simp only [cstIs, Bool.false_eq_true] at hc
      have hc := of_decide_eq_true hc
      subst hc
      exact PE.imp (pe_glob (v := .int j) h1 hu ⟨t, rfl⟩ h2) fun sg H Q ⟨J, r, fp, w, f⟩ => f (.int j) H J fp [] w ⟨rfl, .int j⟩ (fun b z => nomatch z) (nil_step Step.refl)
    · rename_i j hj
      obtain ⟨u, hu, t, rfl⟩ := g.csts _ _ hj
      cases d <;> simp only [cstIs, Bool.false_eq_true] at hc
      have hc := of_decide_eq_true hc
      subst hc
      exact PE.imp (pe_glob (v := .str j) h1 hu ⟨t, rfl⟩ h2) fun sg H Q ⟨J, r, fp, w, f⟩ => f (.str j) H J fp [] w ⟨rfl, .str j⟩ (fun b z => nomatch z) (nil_step Step.refl)
    · cases hc
  | .tup es, X, sc, fb, W, e, g, tk, h => by
    cases e <;> try simp only [okE, Bool.false_eq_true] at h
    simp only [Bool.and_eq_true, decide_eq_true_eq] at h
    obtain ⟨_, _, pa⟩ := soundEs es g tk h.1
    refine Snd.of (PE.imp (pe_tup pa) fun sg H Q ⟨J, r, fp, w, f⟩ => ?_) rfl
    simp only [ev] at f
    refine disp_read w ?_
    cases e : evs Phi es r with
    | bad => rw [e] at f; exact f
    | ex c fs r1 => rw [e] at f; exact f
    | ok ds r1 =>
      rw [e] at f
      intro vs H1 J1 fp1 w1 q hl t1
      refine ⟨by rw [hl, sizeLine_eq]; omega, fun p hp => ?_⟩
      have t2 : Step (Own fp1) H1 J1 (Own fp1) (upd H1 p (.tup vs)) (upd J1 p (.tup vs)) := step_new w1.same hp
      exact f (.ref p) _ (upd J1 p (.tup vs)) fp1 [] (w1.new hp) ⟨rfl, .tup upd_same (shsMono t2.js q)⟩ (fun b z => nomatch z) (nil_step (t1.trans t2))
  | .lst es, X, sc, fb, W, e, g, tk, h => by
    cases e <;> try simp only [okE, Bool.false_eq_true] at h
    simp only [Bool.and_eq_true, decide_eq_true_eq] at h
    obtain ⟨_, _, pa⟩ := soundEs es g tk h.1
    refine Snd.of (PE.imp (pe_lst pa) fun sg H Q ⟨J, r, fp, w, f⟩ => ?_) rfl
    simp only [ev] at f
    refine disp_read w ?_
    cases e : evs Phi es r with
    | bad => rw [e] at f; exact f
    | ex c fs r1 => rw [e] at f; exact f
    | ok ds r1 =>
      rw [e] at f
      intro vs H1 J1 fp1 w1 q hl t1
      refine ⟨by rw [hl, sizeLine_eq]; omega, fun p hp => ?_⟩
      have jp : J1 p = none := by
        cases e : J1 p with
        | none => rfl
        | some o => rw [w1.same _ _ e] at hp; cases hp
      refine f (.ref p) _ J1 fp1 [p] (w1.newOwn hp) ⟨p, vs, rfl, rfl, upd_same, q⟩ (fun b z => ?_) (t1.trans ((step_own hp).weak fun b z => z.imp id List.mem_singleton.mp))
      cases List.mem_singleton.mp z
      refine ⟨jp, fun ⟨j, y⟩ => ?_⟩
      obtain ⟨_, o, ho⟩ := w1.jn j _ y
      rw [hp] at ho; cases ho
  | .not a, X, sc, fb, W, e, g, tk, h => by
    cases e <;> try simp only [okE, Bool.false_eq_true] at h
    rename_i op x p
    cases op <;> try simp only [okE, Bool.false_eq_true] at h
    obtain ⟨s1, s2, s3⟩ := sound a g tk h
    exact ⟨PE.imp (pe_not s1) fun sg H Q q => notV_read q, PT.imp (pt_not s2) fun sg H Q q => not_read q, fun z => by simp [isBO] at z⟩
  | .and a b, X, sc, fb, W, e, g, tk, h => by
    cases e <;> try simp only [okE, Bool.false_eq_true] at h
    rename_i op l p
    cases op with
    | Or => simp only [okE, Bool.false_eq_true] at h
    | And =>
      match l, h with
      | [], h => simp only [okE, Bool.false_eq_true] at h
      | [_], h => simp only [okE, Bool.false_eq_true] at h
      | [x, y], h =>
        simp only [okE, Bool.and_eq_true] at h
        obtain ⟨a1, a2, a3⟩ := sound a g tk h.1
        obtain ⟨b1, b2, b3⟩ := sound b g tk h.2
        have w : PW X (.BoolOp .And [x, y] p) (tTr X.K W Phi (.and a b)) := PW.imp (pw_and a2 (pw_and1 b2)) fun sg H Q q => and_read q
        exact ⟨PE.imp (pe_and a1 (pe_one b1)) fun sg H Q q => andV_read q, w.pt, fun _ => w⟩
      | x :: y :: z :: l, h =>
        simp only [okE, Bool.and_eq_true] at h
        obtain ⟨a1, a2, a3⟩ := sound a g tk h.1
        obtain ⟨b1, b2, b3⟩ := sound b g tk h.2
        have w : PW X (.BoolOp .And (x :: y :: z :: l) p) (tTr X.K W Phi (.and a b)) := PW.imp (pw_and a2 (b3 rfl)) fun sg H Q q => and_read q
        exact ⟨PE.imp (pe_and a1 b1) fun sg H Q q => andV_read q, w.pt, fun _ => w⟩
  | .or a b, X, sc, fb, W, e, g, tk, h => by
    cases e <;> try simp only [okE, Bool.false_eq_true] at h
    rename_i op l p
    cases op with
    | And => simp only [okE, Bool.false_eq_true] at h
    | Or =>
      match l, h with
      | [], h => simp only [okE, Bool.false_eq_true] at h
      | [_], h => simp only [okE, Bool.false_eq_true] at h
      | [x, y], h =>
        simp only [okE, Bool.and_eq_true] at h
        obtain ⟨a1, a2, a3⟩ := sound a g tk h.1
        obtain ⟨b1, b2, b3⟩ := sound b g tk h.2
        have w : PW X (.BoolOp .Or [x, y] p) (tTr X.K W Phi (.or a b)) := PW.imp (pw_or a2 (pw_or1 b2)) fun sg H Q q => or_read q
        exact ⟨PE.imp (pe_or a1 (pe_one b1)) fun sg H Q q => orV_read q, w.pt, fun _ => w⟩
      | x :: y :: z :: l, h =>
        simp only [okE, Bool.and_eq_true] at h
        obtain ⟨a1, a2, a3⟩ := sound a g tk h.1
        obtain ⟨b1, b2, b3⟩ := sound b g tk h.2
        have w : PW X (.BoolOp .Or (x :: y :: z :: l) p) (tTr X.K W Phi (.or a b)) := PW.imp (pw_or a2 (b3 rfl)) fun sg H Q q => or_read q
        exact ⟨PE.imp (pe_or a1 b1) fun sg H Q q => orV_read q, w.pt, fun _ => w⟩
  | .chain o p a b c, X, sc, fb, W, e, g, tk, h => by
    cases e <;> try simp only [okE, Bool.false_eq_true] at h
    rename_i x ops es pos
    match ops, es, h with
    | [o1, o2], [y, z], h =>
      simp only [okE, Bool.and_eq_true, decide_eq_true_eq, Bool.not_eq_true'] at h
      obtain ⟨⟨⟨⟨⟨⟨h1, h2⟩, h3⟩, h4⟩, h5⟩, h6⟩, h7⟩ := h
      have pa := PE.sh (sound a g tk h5).1
      have pb := PE.sh (sound b g tk h6).1
      have pc := PE.sh (sound c g tk h7).1
      have c1 := cmp_ok g h1
      have c2 := cmp_ok g h2
      refine ⟨PE.imp (pe_chain c1 c2 pa pb pc (lastM h3)) fun sg H Q q => chain_read q, PT.imp (pt_chain c1 c2 pa pb pc (lastM h3)) fun sg H Q q => chain_read (tr_ev q), fun z => by simp [isBO] at z⟩
    | [], _, h => simp only [okE, Bool.false_eq_true] at h
    | [_], _, h => simp only [okE, Bool.false_eq_true] at h
    | [_, _], [], h => simp only [okE, Bool.false_eq_true] at h
    | [_, _], [_], h => simp only [okE, Bool.false_eq_true] at h
    | [_, _], _ :: _ :: _ :: _, h => simp only [okE, Bool.false_eq_true] at h
    | _ :: _ :: _ :: _, _, h => simp only [okE, Bool.false_eq_true] at h
  | .op o .nil, X, sc, fb, W, e, g, tk, h => by
    simp only [okE] at h
    split at h
    · rename_i l hl
      cases l with
      | cons a as => simp [okEs] at h
      | nil =>
        unfold opForm at hl
        split at hl <;> first | (split at hl <;> first | (cases hl; done) | (exact (slForm_ne hl).elim) | (obtain ⟨t, _, _, hz, _⟩ := isiForm_ok hl; cases hz; done) | (split at hl <;> cases hl; done)) | cases hl
    · cases h
  | .op o (.cons a .nil), X, sc, fb, W, e, g, tk, h => by
    simp only [okE] at h
    split at h
    · rename_i l hl
      match l, h with
      | [], h => simp [okEs] at h
      | [x], h =>
        simp only [okEs, Bool.and_eq_true] at h
        obtain ⟨h, _⟩ := h
        have s1 := sound a g tk h
        have o1 := PE.opd g h s1.1
        unfold opForm at hl
        split at hl
        · split at hl <;> cases hl
        · split at hl <;> cases hl
        · split at hl
          · rename_i ho
            cases hl
            cases ho
            exact Snd.of (PE.imp (pe_un pm_neg o1) fun sg H Q q => op_read q) rfl
          · cases hl
        · split at hl
          · cases hl
          · rcases slForm_ok hl with ⟨_, _, _, _, hz⟩ | ⟨_, _, _, _, hz⟩ | ⟨k, p1, p2, p3, rfl, rfl, hz⟩
            · cases hz
            · cases hz
            · cases hz
              exact Snd.of (PE.imp (pe_revA o1) fun sg H Q q => op_readR (RR := revQ X.K Q) q fun vs H2 r => revQ_of r) rfl
        · split at hl
          · rename_i hio
            obtain ⟨t, rfl, rfl, hz, hg1, hg2, hty, p2, rfl⟩ := isiForm_ok hl
            cases hz
            exact Snd.of (PE.imp (isi_ok g hg1 hg2 hty o1 (okE_star h)) fun sg H Q q => op_readR (RR := fun vs H2 => rIsiP X.K t (vs ++ [.ty t]) H2 Q) q fun vs H2 ⟨J, ds, s, sm, vw, hp, pq⟩ => by
              have hp' : pIsi t ds = some s := hp
              unfold pIsi at hp'
              split at hp'
              · obtain ⟨v, rfl, a⟩ := vw.one
                exact ⟨v, rfl, J, _, s, sm, vw, hp, pq⟩
              · cases hp') rfl
          · split at hl
            · rename_i hb
              cases hl
              simp only [Bool.and_eq_true, decide_eq_true_eq] at hb
              have pa : PA X [x] (seqOpd X.K W (rd1 Phi) (.cons a .nil)) := pa_cons o1 pa_nil (star_ok (okE_star h))
              refine Snd.of (PE.imp (bname_ok g hb.1 hb.2 pa fun y q => ?_) fun sg H Q q => op_read q) rfl
              cases List.mem_singleton.mp q
              exact okE_star h
            · cases hl
        · cases hl
      | _ :: _ :: _, h => simp [okEs] at h
    · cases h
  | .op o (.cons a (.cons b cs)), X, sc, fb, W, e, g, tk, h => by
    simp only [okE] at h
    split at h
    · rename_i l hl
      match l, h with
      | [], h => simp [okEs] at h
      | [_], h => simp [okEs] at h
      | x :: y :: l, h =>
        have hs := okEs_star h
        simp only [okEs, Bool.and_eq_true] at h
        obtain ⟨ha, hb, hc⟩ := h
        have sa := sound a g tk ha
        have sb := sound b g tk hb
        have oa := PE.opd g ha sa.1
        have ob := PE.opd g hb sb.1
        have pr : PA X (x :: y :: l) (seqOpd X.K W (rd1 Phi) (.cons a (.cons b cs))) := pa_cons oa (pa_cons ob (soundEs cs g tk hc).1 (star_ok (okE_star hb))) (star_ok (okE_star ha))
        unfold opForm at hl
        split at hl
        · split at hl
          · rename_i hbo
            cases hl
            cases cs with
            | cons _ _ => simp [okEs] at hc
            | nil => exact Snd.of (PE.imp (pe_op (bin_ok hbo) oa ob) fun sg H Q q => op_read q) rfl
          · cases hl
        · split at hl
          · rename_i hcm
            cases hl
            simp only [Bool.and_eq_true, decide_eq_true_eq, Bool.not_eq_true'] at hcm
            cases cs with
            | cons _ _ => simp [okEs] at hc
            | nil =>
              have c1 := cmp_ok g hcm.1
              exact ⟨PE.imp (pe_cmpR c1 oa ob (noset hcm.2)) fun sg H Q q => op_read q, PT.imp (pt_cmpR c1 oa ob (noset hcm.2)) fun sg H Q q => op_read (tr_ev q), fun z => by simp [isBO] at z⟩
          · cases hl
        · split at hl <;> cases hl
        · split at hl
          · rename_i hit
            cases hl
            simp only [Bool.and_eq_true, decide_eq_true_eq, Bool.not_eq_true'] at hit
            obtain ⟨rfl, hsl⟩ := hit
            cases cs with
            | cons _ _ => simp [okEs] at hc
            | nil =>
              refine Snd.of (PE.imp (pe_ix (pm_item (by have := g.room.un; omega)) oa ob fun _ _ => ?_) fun sg H Q q => op_read q) rfl
              cases y <;> first | rfl | (simp [isSlice] at hsl)
          · rcases slForm_ok hl with ⟨x2, p2, rfl, rfl, hz⟩ | ⟨x2, p2, rfl, rfl, hz⟩ | ⟨_, _, _, _, _, _, hz⟩
            · cases hz
              cases cs with
              | cons _ _ => simp [okEs] at hc
              | nil => exact Snd.of (PE.imp (pe_slice pm_cut oa (po_some ob) po_none) fun sg H Q q => op_readR (RR := slQ X.K Q true false) q fun vs H2 r => slQ_of r) rfl
            · cases hz
              cases cs with
              | cons _ _ => simp [okEs] at hc
              | nil => exact Snd.of (PE.imp (pe_slice pm_cut oa po_none (po_some ob)) fun sg H Q q => op_readR (RR := slQ X.K Q false true) q fun vs H2 r => slQ_of r) rfl
            · cases hz
        · split at hl
          · obtain ⟨t, _, _, hz, _⟩ := isiForm_ok hl
            cases hz
          · split at hl
            · rename_i hbn
              cases hl
              simp only [Bool.and_eq_true, decide_eq_true_eq] at hbn
              exact Snd.of (PE.imp (bname_ok g hbn.1 hbn.2 pr hs) fun sg H Q q => op_read q) rfl
            · cases hl
        · cases hl
    · cases h
  | .lc elt tg it cond own, X, sc, fb, W, e, g, tk, h => by
    cases e <;> try simp only [okE, Bool.false_eq_true] at h
    rename_i e gs scope pos
    match gs, h with
    | [], h => simp only [okE, Bool.false_eq_true] at h
    | _ :: _ :: _, h => simp only [okE, Bool.false_eq_true] at h
    | [⟨t, i, ifs, a⟩], h =>
      by_cases ha : a = 0
      · subst ha
        simp only [okE, Bool.and_eq_true] at h
        obtain ⟨⟨⟨⟨⟨h1, h2⟩, h3⟩, h4⟩, h5⟩, h6⟩ := h
        have bk := blkOk_by h1
        have hso : ∀ j ∈ slotsT tg, j ∈ own.map (·.2) := fun j q => of_decide_eq_true (List.all_eq_true.mp h6 j q)
        refine Snd.of (PE.imp (pe_lc (own := own) g.calm (by rw [g.hN]; exact g.nd) (soundI it g tk h3) (by rw [g.hN, g.hsc]; exact bk) (fun s H C cl fp => soundT (g.blk bk.kind) h2) (fun s H C cl fp => soundC cond (g.blk bk.kind) takes0 h4)
          (fun s H C cl fp => PE.sh (sound elt (g.blk bk.kind) takes0 h5).1) (foldS (notSetI h3))) fun sg H Q q => lc_read hso q) rfl
      · exfalso
        have : okE P.tx N sc (.lc elt tg it cond own) (.ListComp e [⟨t, i, ifs, a⟩] scope pos) = false := by
          unfold okE
          split <;> first | rfl | (rename_i q; simp_all)
        rw [this] at h
        cases h
  | .call f .nil, X, sc, fb, W, e, g, tk, h => by
    cases e <;> try simp only [okE, Bool.false_eq_true] at h
    rename_i fn as kws pos
    cases fn <;> try simp only [okE, Bool.false_eq_true] at h
    rename_i x p
    cases as with
    | cons a as =>
      cases kws <;> simp [okE, okEs] at h
    | nil =>
      cases kws <;> try simp only [okE, Bool.false_eq_true] at h
      simp only [Bool.and_eq_true, decide_eq_true_eq] at h
      obtain ⟨h1, h2⟩ := h
      obtain ⟨fa, fd, ps, F, hm, hk, hb⟩ := g.fns f x h1
      obtain ⟨g1, g2⟩ := isG_ok g h2
      exact Snd.of (PE.imp (pe_callG0 F g.gd g.room g1 hm hk hb (fun sg => passAt tk sg) g2) fun sg H Q q => call_read q) rfl
  | .call f (.cons c cs), X, sc, fb, W, e, g, tk, h => by
    cases e <;> try simp only [okE, Bool.false_eq_true] at h
    rename_i fn as kws pos
    cases fn <;> try simp only [okE, Bool.false_eq_true] at h
    rename_i x p
    cases as <;> try simp only [okE, Bool.false_eq_true] at h
    rename_i a as
    cases kws <;> try simp only [okE, Bool.false_eq_true] at h
    simp only [Bool.and_eq_true, decide_eq_true_eq] at h
    obtain ⟨⟨h1, h2⟩, h3⟩ := h
    have hs := okEs_star h3
    simp only [okEs, Bool.and_eq_true] at h3
    have oa := PE.arg g h3.1 (sound c g tk h3.1).1 (fun c' e => by subst e; simp only [okE, Bool.and_eq_true] at h3; exact PE.own (sound c' g tk h3.1.1).1)
    have pr : PA X (a :: as) (seqOpd X.K W (ar1 Phi) (.cons c cs)) := pa_cons oa (soundEs cs g tk h3.2).2.1 (star_ok (okE_star h3.1))
    obtain ⟨fa, fd, ps, F, hm, hk, hb⟩ := g.fns f x h1
    obtain ⟨g1, g2⟩ := isG_ok g h2
    exact Snd.of (PE.imp (pe_callG F g.gd g.room g1 hm hk hb (fun sg => passAt tk sg) pr g2 (star_ok (hs a (List.mem_cons_self ..))) (plain_ok fun y q => hs y (List.mem_cons_of_mem _ q))) fun sg H Q q => call_read q) rfl
termination_by c => sizeOf c
theorem soundEs : ∀ (cs : CEs) {X : Cx} {sc : Scope} {fb : Str → Bool} {W : WX} {l : List Expr}, Good P N k Phi X sc fb → Takes X W → okEs P.tx N sc cs l = true →
    PA X l (seqOpd X.K W (rd1 Phi) cs) ∧ PA X l (seqOpd X.K W (ar1 Phi) cs) ∧ PA X l (seqOpd X.K W (it1 Phi) cs)
  | .nil, X, sc, fb, W, l, g, tk, h => by
    cases l with
    | nil => exact ⟨pa_nil, pa_nil, pa_nil⟩
    | cons a as => simp [okEs] at h
  | .cons c cs, X, sc, fb, W, l, g, tk, h => by
    cases l with
    | nil => simp [okEs] at h
    | cons a as =>
      simp only [okEs, Bool.and_eq_true] at h
      have s1 := (sound c g tk h.1).1
      obtain ⟨p1, p2, p3⟩ := soundEs cs g tk h.2
      have st := star_ok (env := X.env) (es := as) (okE_star h.1)
      exact ⟨pa_cons (PE.opd g h.1 s1) p1 st, pa_cons (PE.arg g h.1 s1 (fun c' e => by subst e; simp only [okE, Bool.and_eq_true] at h; exact PE.own (sound c' g tk h.1.1).1)) p2 st, pa_cons (PE.itm s1) p3 st⟩
termination_by cs => sizeOf cs
theorem soundC : ∀ (cs : CEs) {X : Cx} {sc : Scope} {fb : Str → Bool} {W : WX} {l : List Expr}, Good P N k Phi X sc fb → Takes X W → okEs P.tx N sc cs l = true → PTs X l (tCs X.K W Phi cs)
  | .nil, X, sc, fb, W, l, g, tk, h => by
    cases l with
    | nil => exact ⟨fun pins s sg H Q I ⟨J, r, fp, w, f⟩ => (pts_nil (X := X)).run pins s sg H Q I (f H J fp w Step.refl)⟩
    | cons a as => simp [okEs] at h
  | .cons c .nil, X, sc, fb, W, l, g, tk, h => by
    cases l with
    | nil => simp [okEs] at h
    | cons a as =>
      cases as with
      | cons _ _ => simp [okEs] at h
      | nil =>
        simp only [okEs, Bool.and_eq_true] at h
        exact pts_one (PT.imp (sound c g tk h.1).2.1 fun sg H Q ⟨J, r, fp, w, f⟩ => ⟨J, r, fp, w, f⟩)
  | .cons c (.cons d cs), X, sc, fb, W, l, g, tk, h => by
    cases l with
    | nil => simp [okEs] at h
    | cons a as =>
      cases as with
      | nil => simp [okEs] at h
      | cons b as => exact ⟨fun pins s sg H Q I ⟨J, r, fp, w, f⟩ => f.elim⟩
termination_by cs => sizeOf cs
theorem soundI : ∀ (it : CI) {X : Cx} {sc : Scope} {fb : Str → Bool} {W : WX} {tg e : Expr}, Good P N k Phi X sc fb → Takes X W → okI P.tx N sc tg it e = true → PI X tg e (tI X.K W Phi it)
  | .seq c, X, sc, fb, W, tg, e, g, tk, h => by
    simp only [okI] at h
    have s1 := (sound c g tk h).1
    have gen : (∀ r, evI Phi (.seq c) r = (ev Phi c r).sh.bind fun d r1 => seqI d [] r1) → PI X tg e (tI X.K W Phi (.seq c)) := fun e1 =>
      PI.imp (pi_seq (PE.sh s1)) fun sg H Q ⟨J, r, fp, w, f⟩ => by
        rw [e1] at f
        exact ⟨J, r, fp, w, FinI.bindD f fun d r1 v H1 J1 fp1 _ w1 q f1 => seq_sh w1 q f1⟩
    cases c with
    | var i =>
      cases e <;> try simp only [okE, Bool.false_eq_true] at h
      refine PI.imp (pi_seq (isV_ok g h)) fun sg H Q ⟨J, r, fp, w, f⟩ => ?_
      simp only [evI] at f
      cases e : lk1 r (.pl i) with
      | none => rw [e] at f; exact f.elim
      | some p =>
        obtain ⟨d, ls, r1⟩ := p
        rw [e] at f
        simp only at f
        have hv : ∃ v, sg[i]? = some (some v) := by
          simp only [lk1] at e
          split at e
          · rename_i ed
            obtain ⟨v, hv, _⟩ := w.rep i _ ed (fun z => nomatch z)
            exact ⟨v, hv⟩
          · rename_i ed
            obtain ⟨v, hv, _⟩ := w.rep i _ ed (fun z => nomatch z)
            exact ⟨v, hv⟩
          · cases e
        obtain ⟨v, hv⟩ := hv
        obtain ⟨fp1, gs, w1, lk, st, ow⟩ := lk1_ok (o := .pl i) (v := v) (g := []) w ⟨rfl, hv⟩ e
        refine ⟨v, hv, seq_std w1 st lk ?_⟩
        revert f
        cases d <;> simp only [seqI] <;> intro f <;> first | exact f.elim | (intro T S wk s kp e1 e2 hl; exact f T S H J fp1 gs w1 wk s kp lk hl (Step.refl.weak fun b z => ow b z))
    | _ => exact gen fun r => by simp only [evI]
  | .rng1 c, X, sc, fb, W, tg, e, g, tk, h => by
    obtain ⟨p, a, pos, rfl, hg, hc⟩ := okI_rng1 h
    obtain ⟨g1, g2⟩ := isG_ok g hg
    have s1 := PE.sh (sound c g tk hc).1
    have st := star_ok (env := X.env) (es := []) (okE_star hc)
    refine PI.imp (pi_range1 g1 (g.blt _ (by simp [bnames])) (pa_cons s1 pa_nil st) st) fun sg H Q ⟨J, r, fp, w, f⟩ => ?_
    simp only [evI] at f
    refine ⟨J, r, fp, w, FinI.bindD f fun d r1 v H1 J1 fp1 _ w1 q f1 => ?_⟩
    cases q with
    | int n =>
      simp only at f1
      split at f1
      · rename_i hn
        simp only [in62, Bool.and_eq_true, decide_eq_true_eq] at hn
        exact ⟨n, rfl, hn.1.1, hn.1.2, f1 _ _ H1 J1 fp1 [] w1 walks_rng trivial (fun _ _ _ _ _ _ _ _ _ => trivial) .nil (by rw [rngL_len, sizeLine_eq]; exact of_decide_eq_true hn.2) (nil_step Step.refl)⟩
      · exact f1.elim
    | _ => exact f1.elim
  | .rng2 c d, X, sc, fb, W, tg, e, g, tk, h => by
    obtain ⟨p, a, b, pos, rfl, hg, hc, hd⟩ := okI_rng2 h
    obtain ⟨g1, g2⟩ := isG_ok g hg
    have s1 := PE.sh (sound c g tk hc).1
    have s2 := PE.sh (sound d g tk hd).1
    have st := star_ok (env := X.env) (es := [b]) (okE_star hc)
    have st2 := star_ok (env := X.env) (es := []) (okE_star hd)
    refine PI.imp (pi_range2 g1 (g.blt _ (by simp [bnames])) (pa_cons s1 (pa_cons s2 pa_nil st2) st) (by rw [st, st2]; rfl) st2) fun sg H Q ⟨J, r, fp, w, f⟩ => ?_
    simp only [evI] at f
    refine ⟨J, r, fp, w, FinI.bindD f fun d r1 v H1 J1 fp1 _ w1 q f1 => ⟨J1, r1, fp1, w1, FinI.bindD f1 fun d2 r2 v2 H2 J2 fp2 _ w2 q2 f2 => ?_⟩⟩
    cases q with
    | int m =>
      cases q2 with
      | int n =>
        simp only at f2
        split at f2
        · rename_i hn
          simp only [in62, Bool.and_eq_true, decide_eq_true_eq] at hn
          exact ⟨m, n, rfl, ⟨hn.1.1.1, hn.1.1.2, hn.1.2.1, hn.1.2.2⟩, f2 _ _ H2 J2 fp2 [] w2 walks_rng trivial (fun _ _ _ _ _ _ _ _ _ => trivial) .nil (by rw [rngL_len, sizeLine_eq]; exact of_decide_eq_true hn.2) (nil_step Step.refl)⟩
        · exact f2.elim
      | _ => exact f2.elim
    | _ => cases q2 <;> exact f2.elim
  | .prs true es, X, sc, fb, W, tg, e, g, tk, h => by
    obtain ⟨p, a, b, pos, rfl, hg, ht, hc⟩ := okI_zip h
    obtain ⟨l, kk, tp, rfl⟩ := isTup_ok ht
    obtain ⟨g1, g2⟩ := isG_ok g hg
    have hs := okEs_star hc
    have pr := (soundEs es g tk hc).1
    exact PI.imp (RZ.pi_zipA g1 (g.blt _ (by simp [bnames])) pr (star_ok (hs a (by simp))) (plain_ok fun y q => hs y (List.mem_cons_of_mem _ q))) fun sg H Q q => zip_read q
  | .prs false es, X, sc, fb, W, tg, e, g, tk, h => by
    obtain ⟨p, a, pos, rfl, hg, ht, hc⟩ := okI_enum h
    obtain ⟨l, kk, tp, rfl⟩ := isTup_ok ht
    obtain ⟨g1, g2⟩ := isG_ok g hg
    have hs := okEs_star hc
    have pr := (soundEs es g tk hc).1
    exact PI.imp (pi_enum g1 (g.blt _ (by simp [bnames])) pr (by rw [star_ok (hs a (by simp))]; rfl)) fun sg H Q q => enum_read q
termination_by it => sizeOf it
end
end
end Ev
end

section
set_option Elab.async false
set_option linter.all false
set_option maxRecDepth 100000
set_option maxHeartbeats 4000000
namespace Ev
open PySem L2
variable [Errs]

section
variable (K : PySem.W.Frag) (W : WX) (fu : Nat) (Phi : Nat → Ro → FR)
/-- how a statement may end; vs: the slots that it may store to -/
def FinS (vs : List Nat) (sg : St) (H J : Hp) (fp : Nat → List Addr) (x : R Fl) (D : Ends) : Prop := match x with
  | .ok .nx r' => ∀ sg' H' J' fp', Wf K H' J' sg' r' fp' → Agree vs sg sg' → Step (Own fp) H J (Own fp') H' J' → D.nx sg' H'
  | .ok (.ret s) r' => ∀ v sg' H' J' fp' g, Wf K H' J' sg' r' fp' → Agree vs sg sg' → RepS K H' J' s v g → (∀ b ∈ g, J' b = none ∧ ¬ Own fp' b) → Step (Own fp) H J (fun b => Own fp' b ∨ b ∈ g) H' J' → D.rt v H'
  | .ex c fs r' => ∀ sg' H' J' fp' cls d, Wf K H' J' sg' r' fp' → Agree vs sg sg' → XRep K H' J' c fs cls d → Step (Own fp) H J (Own fp') H' J' → W cls d sg' H'
  | .bad => False
def tS (vs : List Nat) (c : CS) : TS := fun D sg H => ∃ J r fp, Wf K H J sg r fp ∧ FinS K W vs sg H J fp (ex fu Phi c r) D
def tSs (vs : List Nat) (c : CSs) : TS := fun D sg H => ∃ J r fp, Wf K H J sg r fp ∧ FinS K W vs sg H J fp (exs fu Phi c r) D
end
section
variable {K : PySem.W.Frag} {W : WX} {fu : Nat} {Phi : Nat → Ro → FR} {vs ws : List Nat} {sg sg1 : St} {H J H1 J1 : Hp} {fp fp1 : Nat → List Addr} {D : Ends}
theorem FinS.later {x : R Fl} (a : Agree vs sg sg1) (s : Step (Own fp) H J (Own fp1) H1 J1) (h : FinS K W vs sg H J fp x D) : FinS K W vs sg1 H1 J1 fp1 x D := by
  cases x with
  | ok f r =>
    cases f with
    | nx => exact fun sg' H' J' fp' w q t => h sg' H' J' fp' w (a.trans q) (s.trans t)
    | ret z => exact fun v sg' H' J' fp' g w q r n t => h v sg' H' J' fp' g w (a.trans q) r n (s.trans t)
  | ex c fs r => exact fun sg' H' J' fp' cls d w q x t => h sg' H' J' fp' cls d w (a.trans q) x (s.trans t)
  | bad => exact h
theorem FinS.mono {x : R Fl} (m : ∀ i ∈ ws, i ∈ vs) (h : FinS K W vs sg H J fp x D) : FinS K W ws sg H J fp x D := by
  cases x with
  | ok f r =>
    cases f with
    | nx => exact fun sg' H' J' fp' w q t => h sg' H' J' fp' w (q.mono m) t
    | ret z => exact fun v sg' H' J' fp' g w q r n t => h v sg' H' J' fp' g w (q.mono m) r n t
  | ex c fs r => exact fun sg' H' J' fp' cls d w q x t => h sg' H' J' fp' cls d w (q.mono m) x t
  | bad => exact h
/-- a first value, then the rest of a statement -/
theorem FinS.bindD {x : R PyData} {f : PyData → Ro → R Fl} {T : V → Hp → Prop} (h : FinS K W vs sg H J fp (x.bind f) D)
    (k : ∀ d r1 v H1 J1 fp1, x = .ok d r1 → Wf K H1 J1 sg r1 fp1 → Sh K J1 v d → Step (Own fp) H J (Own fp1) H1 J1 → FinS K W vs sg H1 J1 fp1 (f d r1) D → T v H1) : Fin K W (RepD K) sg H J fp x T := by
  cases x with
  | ok d r1 =>
    intro v H1 J1 fp1 g w q n t
    obtain ⟨rfl, q⟩ := q
    exact k d r1 v H1 J1 fp1 rfl w q (step_nil t) (FinS.later .refl (step_nil t) h)
  | ex c fs r => exact fun H' J' fp' cls d w q t => h sg H' J' fp' cls d w .refl q t
  | bad => exact h
theorem FinS.bindS {x : R Slot} {f : Slot → Ro → R Fl} {T : V → Hp → Prop} (h : FinS K W vs sg H J fp (x.bind f) D)
    (k : ∀ s r1 v H1 J1 fp1 g, x = .ok s r1 → Wf K H1 J1 sg r1 fp1 → RepS K H1 J1 s v g → (∀ b ∈ g, J1 b = none ∧ ¬ Own fp1 b) → Step (Own fp) H J (fun b => Own fp1 b ∨ b ∈ g) H1 J1 → FinS K W vs sg H J fp (f s r1) D → T v H1) : Fin K W (RepS K) sg H J fp x T := by
  cases x with
  | ok d r1 => exact fun v H1 J1 fp1 g w q n t => k d r1 v H1 J1 fp1 g rfl w q n t h
  | ex c fs r => exact fun H' J' fp' cls d w q t => h sg H' J' fp' cls d w .refl q t
  | bad => exact h
theorem FinS.bindB {x : R Bool} {f : Bool → Ro → R Fl} {T : Bool → Hp → Prop} (h : FinS K W vs sg H J fp (x.bind f) D)
    (k : ∀ b r1 H1 J1 fp1, x = .ok b r1 → Wf K H1 J1 sg r1 fp1 → FinS K W vs sg H1 J1 fp1 (f b r1) D → T b H1) : FinB K W sg H J fp x T := by
  cases x with
  | ok b r1 => exact fun H1 J1 fp1 w t => k b r1 H1 J1 fp1 rfl w (FinS.later .refl t h)
  | ex c fs r => exact fun H' J' fp' cls d w q t => h sg H' J' fp' cls d w .refl q t
  | bad => exact h
/-- a name's store -/
theorem store_read {i : Nat} {x : R Slot} (hv : i ∈ vs) (h : FinS K W vs sg H J fp (x.bind fun s r1 => match asgN i s r1 with | some r2 => .ok .nx r2 | none => .bad) D) :
    Fin K W (RepS K) sg H J fp x fun v H1 => gName i v sg H1 D.nx := by
  refine FinS.bindS h fun s r1 v H1 J1 fp1 g _ w1 q n t f => ?_
  simp only [asgN] at f
  split at f
  · rename_i r2 e
    split at e
    · rename_i hi
      cases e
      have hi := of_decide_eq_true hi
      refine f _ H1 J1 (fpSet fp1 i g) (w1.put hi q fun b z => ⟨(n b z).1, fun j _ y => (n b z).2 ⟨j, y⟩⟩) (.set hv) (t.weak fun b z => (own_set z).elim .inr .inl)
    · cases e
  · exact f.elim
theorem turns_drop {step : PyData → Ro → R Fl} {items : List PyData} {i : Nat} {d : PyData} {r : Ro} (hd : items[i]? = some d) : turns step (items.drop i) r = match step d r with | .ok .nx r' => turns step (items.drop (i + 1)) r' | o => o := by
  have hi := (List.getElem?_eq_some_iff.mp hd).1
  have e : items.drop i = d :: items.drop (i + 1) := by
    rw [List.drop_eq_getElem_cons hi, (List.getElem?_eq_some_iff.mp hd).2]
  rw [e]
  rfl

theorem lks_mem : ∀ {x : List Od} {r : Ro} {ds : List PyData} {ls : List Lk} {r2 : Ro}, lks x r = some (ds, ls, r2) → ∀ p ∈ ls, Od.pl p.1 ∈ x
  | [], r, ds, ls, r2, h, p, hp => by simp only [lks] at h; cases h; cases hp
  | o :: x, r, ds, ls, r2, h, p, hp => by
    simp only [lks] at h
    cases e1 : lk1 r o with
    | none => rw [e1] at h; cases h
    | some q =>
      obtain ⟨d, l, r1⟩ := q
      rw [e1] at h
      simp only at h
      cases e2 : lks x r1 with
      | none => rw [e2] at h; cases h
      | some q2 =>
        obtain ⟨ds', ls', r2'⟩ := q2
        rw [e2] at h
        cases h
        rcases List.mem_append.mp hp with z | z
        · cases o with
          | da d' => cases e1; cases z
          | tm s => cases e1
          | pl i =>
            simp only [lk1] at e1
            split at e1
            · cases e1; cases z
            · cases e1
              cases List.mem_singleton.mp z
              exact List.mem_cons_self ..
            · cases e1
        · exact List.mem_cons_of_mem _ (lks_mem e2 p z)
theorem many_pl {Phi : Nat → Ro → FR} : ∀ {es : CEs} {r : Ro} {x : List Od} {r1 : Ro}, many (rd1 Phi) es r = .ok x r1 → ∀ i, Od.pl i ∈ x → i ∈ lockEs es
  | .nil, r, x, r1, h, i, hp => by
    simp only [many] at h
    cases h
    cases hp
  | .cons c cs, r, x, r1, h, i, hp => by
    simp only [many] at h
    cases e1 : rd1 Phi c r with
    | bad => rw [e1] at h; cases h
    | ex _ _ _ => rw [e1] at h; cases h
    | ok a r2 =>
      rw [e1] at h
      simp only [R.bind] at h
      cases e2 : many (rd1 Phi) cs r2 with
      | bad => rw [e2] at h; cases h
      | ex _ _ _ => rw [e2] at h; cases h
      | ok b r3 =>
        rw [e2] at h
        cases h
        rcases List.mem_cons.mp hp with z | z
        · subst z
          cases c with
          | var j =>
            simp only [rd1] at e1
            split at e1
            · cases e1; exact List.mem_cons_self ..
            · cases e1
          | _ =>
            simp only [rd1] at e1
            generalize (ev Phi _ r).sh = z at e1
            cases z with
            | ok d r4 => simp only [R.ok_bind] at e1; cases e1
            | _ => cases e1
        · have := many_pl e2 i z
          cases c <;> first | exact this | exact List.mem_cons_of_mem _ this
theorem evI_locks {Phi : Nat → Ro → FR} {it : CI} {r r1 : Ro} {items : List PyData} {ls : List Lk} (e : evI Phi it r = .ok (items, ls) r1) : ∀ p ∈ ls, p.1 ∈ lockI it := by
  intro p hp
  cases it with
  | seq c =>
    cases c with
    | var j =>
      simp only [evI, lk1] at e
      cases ed : r[j]? with
      | none => rw [ed] at e; cases e
      | some s =>
        rw [ed] at e
        cases s with
        | sh d => cases d <;> simp only [seqI] at e <;> cases e <;> cases hp
        | lst ds =>
          simp only [seqI] at e
          cases e
          cases List.mem_singleton.mp hp
          simp [lockI]
        | _ => cases e
    | _ =>
      simp only [evI] at e
      generalize (ev Phi _ r).sh = z at e
      cases z with
      | ok d r2 =>
        simp only [R.ok_bind, seqI] at e
        split at e <;> cases e <;> cases hp
      | _ => cases e
  | prs zz es =>
    simp only [evI, rds_many] at e
    cases e2 : many (rd1 Phi) es r with
    | bad => rw [e2] at e; cases e
    | ex _ _ _ => rw [e2] at e; cases e
    | ok x r2 =>
      rw [e2] at e
      simp only [R.ok_bind] at e
      cases el : lks x r2 with
      | none => rw [el] at e; cases e
      | some q =>
        obtain ⟨ds, ls', r3⟩ := q
        rw [el] at e
        simp only at e
        split at e
        · cases e
          exact many_pl e2 _ (lks_mem el p hp)
        · cases e
  | rng1 c =>
    simp only [evI] at e
    generalize (ev Phi _ r).sh = z at e
    cases z with
    | ok d r2 =>
      simp only [R.ok_bind] at e
      split at e
      · split at e <;> cases e
        cases hp
      · cases e
    | _ => cases e
  | rng2 c d =>
    simp only [evI] at e
    generalize (ev Phi c r).sh = z at e
    cases z with
    | ok d r2 =>
      simp only [R.ok_bind] at e
      generalize (ev Phi _ r2).sh = z at e
      cases z with
      | ok d r2 =>
        simp only [R.ok_bind] at e
        split at e
        · split at e <;> cases e
          cases hp
        · cases e
      | _ => cases e
    | _ => cases e
/-- a for, by its turns -/
theorem for_read {t : CT} {it : CI} {b : CSs} (hlk : ∀ i ∈ lockI it, i ∉ slotsT t ++ asgds b) (h : tS K W fu Phi (slotsT t ++ asgds b) (.for_ t it b) D sg H) :
    tFor (tI K W Phi it) (tT K t) (tSs K W fu Phi (asgds b) b) D sg H := by
  obtain ⟨J, r, fp, w, f⟩ := h
  refine ⟨J, r, fp, w, ?_⟩
  simp only [ex] at f
  generalize hws : slotsT t ++ asgds b = ws at *
  cases e : evI Phi it r with
  | bad => rw [e] at f; exact f
  | ex c fs r1 => rw [e] at f; exact fun H' J' fp' cls d w q t => f sg H' J' fp' cls d w .refl q t
  | ok a r1 =>
    obtain ⟨items, lks⟩ := a
    rw [e] at f
    simp only [R.ok_bind] at f
    have hl : ∀ p ∈ lks, p.1 ∉ ws := fun p hp => hlk _ (evI_locks e p hp)
    intro T S H1 J1 fp1 g w1 wk s1 kp o1 hlen t1
    simp only at o1 hlen wk
    generalize hst : (fun d q => match asg t d q with
        | some q1 => exs fu Phi b q1
        | none => R.bad) = step at f
    have f' : FinS K W ws sg H J fp ((turns step items r1).bind fun f r2 => .ok f (unlks lks r2)) D := f
    clear f
    have f2 : FinS K W ws sg H1 J1 fp1 ((turns step items r1).bind fun f r2 => .ok f (unlks lks r2)) D → True := fun _ => trivial
    refine ⟨fun i m sg' H' => m = items.length - i ∧ i ≤ items.length ∧ ∃ J' r' fp', Wf K H' J' sg' r' fp' ∧ S H' J' ∧ Lks K H' J' fp' sg' lks g ∧ Agree ws sg sg' ∧
        Step (fun b => Own fp1 b ∨ b ∈ g) H1 J1 (fun b => Own fp' b ∨ b ∈ g) H' J' ∧ turns step (items.drop i) r' = turns step items r1, ⟨_, rfl, Nat.zero_le _, J1, r1, fp1, w1, s1, o1, .refl, Step.refl, rfl⟩, ?_⟩
    rintro i m sg0 H0 ⟨rfl, hi, J0, r0, fp0, w0, s0, o0, ag0, st0, et0⟩
    by_cases hlt : i < items.length
    · refine .inr ⟨wk.go i H0 J0 w0.same s0 hlt, fun sg' H' => _, fun sg' H' q => ⟨items.length - (i + 1), by omega, q⟩, fun x H2 hy => ?_⟩
      obtain ⟨J2, d, hd, hx, sm2, s2, t2⟩ := wk.yld i H0 J0 x H2 w0.same s0 hlt hy
      rw [turns_drop hd] at et0
      have w2 : Wf K H2 J2 sg0 r0 fp0 := w0.step t2 sm2 fun _ _ z => z
      have t2' : Step (Own fp0) H0 J0 (Own fp0) H2 J2 := ⟨t2.js, fun b o q _ => t2.fr b o q id, fun b q => .inl q, fun b q => (t2.jg b q).imp id fun z => z.imp False.elim id⟩
      have o2 : Lks K H2 J2 fp0 sg0 lks g := Lks.stepG t2' (fun _ z => z) o0 fun b q => (o0.off b q).2.1
      have gO : ∀ b ∈ g, ¬ Own fp0 b := fun b q => (o2.off b q).2.1
      have st2 : Step (fun b => Own fp1 b ∨ b ∈ g) H1 J1 (fun b => Own fp0 b ∨ b ∈ g) H2 J2 := st0.trans ⟨t2.js, fun b o q _ => t2.fr b o q id, fun b q => .inl q, fun b q => (t2.jg b q).imp id fun z => z.imp False.elim id⟩
      cases ea : asg t d r0 with
      | none =>
        have : step d r0 = .bad := by rw [← hst]; simp only [ea]
        rw [this] at et0
        rw [← et0] at f'
        exact f'.elim
      | some q1 =>
        have hstep : step d r0 = exs fu Phi b q1 := by rw [← hst]; simp only [ea]
        rw [hstep] at et0
        refine asg_ok ea w2 hx fun sg3 fp3 w3 own3 ag3 => ⟨J2, q1, fp3, w3, ?_⟩
        have ag03 : Agree ws sg sg3 := ag0.trans (ag3.mono fun j z => by rw [← hws]; exact List.mem_append.mpr (.inl z))
        have lift : ∀ {F' : Addr → Prop} {H4 J4 : Hp}, Step (Own fp3) H2 J2 F' H4 J4 → Step (fun b => Own fp0 b ∨ b ∈ g) H2 J2 (fun b => F' b ∨ b ∈ g) H4 J4 := fun {F' H4 J4} t =>
          ⟨t.js, fun b o q n => t.fr b o q fun z => n (.inl (own3 b z)), fun b q => q.elim (fun q => (t.fn b q).imp (fun z => .inl (own3 b z)) id) fun q => .inl (.inr q), fun b q => (t.jg b q).imp id fun z => z.imp (fun z => .inl (own3 b z)) id⟩
        have gF : ∀ b ∈ g, ¬ Own fp3 b := fun b q z => gO b q (own3 b z)
        have o3 : Lks K H2 J2 fp3 sg3 lks g := Lks.agree (ag3.mono fun j z => by rw [← hws]; exact List.mem_append.mpr (.inl z)) hl (Lks.stepG (Step.refl (F := Own fp0)) own3 o2 gO)
        cases eb : exs fu Phi b q1 with
        | bad =>
          rw [eb] at et0
          rw [← et0] at f'
          exact f'.elim
        | ex c fs r4 =>
          rw [eb] at et0
          rw [← et0] at f'
          intro sg4 H4 J4 fp4 cls dd w4 ag4 q4 t4
          refine f' sg4 H4 J4 fp4 cls dd w4 (ag03.trans (ag4.mono fun j z => by rw [← hws]; exact List.mem_append.mpr (.inr z))) q4 ((t1.trans (st2.trans (lift t4))).weak fun b z => .inl z)
        | ok fl r4 =>
          rw [eb] at et0
          cases fl with
          | ret z =>
            rw [← et0] at f'
            intro v sg4 H4 J4 fp4 g4 w4 ag4 q4 n4 t4
            have ag4' : Agree ws sg3 sg4 := ag4.mono fun j z => by rw [← hws]; exact List.mem_append.mpr (.inr z)
            have o4 : Lks K H4 J4 fp4 sg4 lks g := Lks.agree ag4' hl (Lks.stepG t4 (fun b z => .inl z) o3 gF)
            obtain ⟨fp5, w5, own5⟩ := o4.unlock w4
            refine f' v sg4 H4 J4 fp5 g4 w5 (ag03.trans ag4') q4 (fun b z => ⟨(n4 b z).1, fun q => ?_⟩) ((t1.trans (st2.trans (lift t4))).weak fun b q => ?_)
            · rcases own5 b q with q | q
              · exact (n4 b z).2 q
              · obtain ⟨_, _, o, ho⟩ := o3.off b q
                rcases t4.fn b (.inr z) with y | y
                · exact gF b q y
                · rw [ho] at y; cases y
            · rcases q with q | q
              · exact (own5 b q).elim (fun z => .inl (.inl z)) .inr
              · exact .inl (.inr q)
          | nx =>
            intro sg4 H4 J4 fp4 w4 ag4 t4
            have ag4' : Agree ws sg3 sg4 := ag4.mono fun j z => by rw [← hws]; exact List.mem_append.mpr (.inr z)
            exact ⟨rfl, hlt, J4, r4, fp4, w4, kp _ _ _ _ _ _ s2 t4 gF, Lks.agree ag4' hl (Lks.stepG t4 (fun b z => z) o3 gF), ag03.trans ag4', st2.trans (lift t4), et0⟩
    · have ei : i = items.length := by omega
      refine .inl ⟨wk.stop i H0 J0 w0.same s0 (by omega), ?_⟩
      rw [ei, List.drop_length] at et0
      rw [← et0] at f'
      obtain ⟨fp3, w3, own3⟩ := o0.unlock w0
      exact f' sg0 H0 J0 fp3 w3 ag0 ((t1.trans st0).weak fun b q => own3 b q)
end
end Ev
end

section
set_option Elab.async false
set_option linter.all false
set_option maxRecDepth 100000
set_option maxHeartbeats 4000000
namespace Ev
open PySem L2
variable [Errs]

section
variable {K : PySem.W.Frag} {W : WX} {fu : Nat} {Phi : Nat → Ro → FR} {vs ws : List Nat} {sg sg1 : St} {H J H1 J1 : Hp} {fp fp1 : Nat → List Addr} {D : Ends}
theorem while_read {c : CE} {b : CSs} (h : tS K W fu Phi (asgds b) (.while_ c b) D sg H) : tWhile (tTr K W Phi c) (tSs K W fu Phi (asgds b) b) D sg H := by
  obtain ⟨J, r, fp, w, f⟩ := h
  simp only [ex] at f
  generalize hres : loop (fun q => (ev Phi c q).truth) (fun q => exs fu Phi b q) fu r = res at f
  refine ⟨fun m sg' H' => ∃ J' r' fp', Wf K H' J' sg' r' fp' ∧ Agree (asgds b) sg sg' ∧ Step (Own fp) H J (Own fp') H' J' ∧ loop (fun q => (ev Phi c q).truth) (fun q => exs fu Phi b q) m r' = res, ⟨fu, J, r, fp, w, .refl, Step.refl, hres⟩, ?_⟩
  rintro m sg0 H0 ⟨J0, r0, fp0, w0, ag0, st0, e0⟩
  cases m with
  | zero =>
    simp only [loop] at e0
    rw [← e0] at f
    exact f.elim
  | succ m =>
    simp only [loop] at e0
    refine ⟨J0, r0, fp0, w0, ?_⟩
    cases ec : (ev Phi c r0).truth with
    | bad =>
      rw [ec] at e0
      rw [← e0] at f
      exact f.elim
    | ex cc fs r1 =>
      rw [ec] at e0
      rw [← e0] at f
      exact fun H' J' fp' cls d w q t => f sg0 H' J' fp' cls d w ag0 q (st0.trans t)
    | ok x r1 =>
      rw [ec] at e0
      intro H1 J1 fp1 w1 t1
      cases x with
      | false =>
        rw [if_neg Bool.false_ne_true]
        simp only at e0
        rw [← e0] at f
        exact f sg0 H1 J1 fp1 w1 ag0 (st0.trans t1)
      | true =>
        rw [if_pos rfl]
        refine ⟨fun sg' H' => ∃ J' r' fp', Wf K H' J' sg' r' fp' ∧ Agree (asgds b) sg sg' ∧ Step (Own fp) H J (Own fp') H' J' ∧ loop (fun q => (ev Phi c q).truth) (fun q => exs fu Phi b q) m r' = res, fun sg' H' q => ⟨m, Nat.lt_succ_self m, q⟩, J1, r1, fp1, w1, ?_⟩
        simp only at e0
        cases eb : exs fu Phi b r1 with
        | bad =>
          rw [eb] at e0
          rw [← e0] at f
          exact f.elim
        | ex cc fs r2 =>
          rw [eb] at e0
          rw [← e0] at f
          exact fun sg' H' J' fp' cls d w a q t => f sg' H' J' fp' cls d w (ag0.trans a) q ((st0.trans t1).trans t)
        | ok fl r2 =>
          rw [eb] at e0
          cases fl with
          | nx => exact fun sg' H' J' fp' w a t => ⟨J', r2, fp', w, ag0.trans a, (st0.trans t1).trans t, e0⟩
          | ret z =>
            rw [← e0] at f
            exact fun v sg' H' J' fp' g w a q n t => f v sg' H' J' fp' g w (ag0.trans a) q n ((st0.trans t1).trans t)

theorem sw_eq {X : Cx} {sc : Scope} {e : Expr} {x : Str} {py : Pos} {l : Nat} (hsc : X.env.scope = sc) (hk : sc.kind = .function) (hne : ∀ a b c d e', e ≠ .DictComp a b c d e') (hns : ∀ a b c d, e ≠ .SetComp a b c d) :
    swapsWith e (some (.Name x py)) l X.env = pure (swB sc e x py) := by
  cases e <;> first | rfl | exact absurd rfl (hne _ _ _ _ _) | exact absurd rfl (hns _ _ _ _) | skip
  rename_i elt gs scope pos
  have hb : X.env.blockKind = .function := by unfold Env.blockKind; rw [hsc, hk]; rfl
  have hx : X.env.kindOf x = sc.names.lookup x := by show X.env.scope.names.lookup x = _; rw [hsc]
  unfold swapsWith swB
  simp only [hb, hx, Expr.pos]
  have e1 : (List.lookup x sc.names == some NameKind.local) = decide (List.lookup x sc.names = some NameKind.local) := by
    cases List.lookup x sc.names with
    | none => rfl
    | some q => cases q <;> rfl
  rw [e1]
  rfl
end

section
variable {P : Prg} {N : List Str} {k : Nat} {Phi : Nat → Ro → FR} {X : Cx} {sc : Scope} {fb : Str → Bool} {W : WX} {fu : Nat}
/-- a list of one's own written -/
theorem own_write {K : PySem.W.Frag} {H J : Hp} {sg : St} {r : Ro} {fp : Nat → List Addr} {i : Nat} {a : Addr} {ds : List PyData} (w : Wf K H J sg r fp) (hv : sg[i]? = some (some (.ref a))) (ed : r[i]? = some (.lst ds)) :
    ∃ xs, H a = some (.lst xs) ∧ ShAll K J xs ds ∧ ∀ {ys : List V} {es : List PyData}, ShAll K J ys es → ∃ fp2, Wf K (upd H a (.lst ys)) J sg (r.set i (.lst es)) fp2 ∧ Step (Own fp) H J (Own fp2) (upd H a (.lst ys)) J := by
  obtain ⟨v', hv', a', xs, e1, hg, ha, hd⟩ := w.rep i _ ed (fun z => nomatch z)
  rw [hv] at hv'
  cases hv'
  cases e1
  have mem : a ∈ fp i := by rw [hg]; exact List.mem_singleton.mpr rfl
  have hi : i < r.length := (List.getElem?_eq_some_iff.mp ed).1
  have jn := (w.jn i a mem).1
  refine ⟨xs, ha, hd, fun {ys es} hy => ?_⟩
  have w2 : Wf K (upd H a (.lst ys)) J sg (r.set i .non) (fpSet fp i []) := (w.drop i).step (step_upd (D := a)) (same_updN w.same jn) fun b z y => own_wipe_ne w mem (by rw [← y]; exact z)
  have w3 := w2.putKeep (i := i) (s := .lst es) (v := .ref a) (g := [a]) (by rw [List.length_set]; exact hi) hv ⟨a, _, rfl, rfl, upd_same, hy⟩ fun b z => by
    cases List.mem_singleton.mp z
    exact ⟨jn, fun k hk y => own_wipe_ne w mem ⟨k, y⟩⟩
  rw [List.set_set] at w3
  refine ⟨_, w3, Same.refl _, fun b o q nb => ?_, fun b q => ?_, fun b q => .inl q⟩
  · rw [upd_ne fun z => nb (by rw [z]; exact ⟨i, mem⟩)]
    exact q
  · rcases own_set q with z | z
    · cases List.mem_singleton.mp z; exact .inl ⟨i, mem⟩
    · exact .inl (own_wipe z)
/-- a dict of one's own written -/
theorem own_writeD {K : PySem.W.Frag} {H J : Hp} {sg : St} {r : Ro} {fp : Nat → List Addr} {i : Nat} {a : Addr} {tt : Bool} {kvs : List (PyData × PyData)} (w : Wf K H J sg r fp) (hv : sg[i]? = some (some (.ref a))) (ed : r[i]? = some (.dct tt kvs)) :
    ∃ ho, H a = some ho ∧ DRep K J ho tt kvs ∧ ∀ {ho' : HO} {kvs' : List (PyData × PyData)}, DRep K J ho' tt kvs' → ∃ fp2, Wf K (upd H a ho') J sg (r.set i (.dct tt kvs')) fp2 ∧ Step (Own fp) H J (Own fp2) (upd H a ho') J := by
  obtain ⟨v', hv', a', ho, e1, hg, ha, hd⟩ := w.rep i _ ed (fun z => nomatch z)
  rw [hv] at hv'
  cases hv'
  cases e1
  have mem : a ∈ fp i := by rw [hg]; exact List.mem_singleton.mpr rfl
  have hi : i < r.length := (List.getElem?_eq_some_iff.mp ed).1
  have jn := (w.jn i a mem).1
  refine ⟨ho, ha, hd, fun {ho' kvs'} hy => ?_⟩
  have w2 : Wf K (upd H a ho') J sg (r.set i .non) (fpSet fp i []) := (w.drop i).step (step_upd (D := a)) (same_updN w.same jn) fun b z y => own_wipe_ne w mem (by rw [← y]; exact z)
  have w3 := w2.putKeep (i := i) (s := .dct tt kvs') (v := .ref a) (g := [a]) (by rw [List.length_set]; exact hi) hv ⟨a, ho', rfl, rfl, upd_same, hy⟩ fun b z => by
    cases List.mem_singleton.mp z
    exact ⟨jn, fun k hk y => own_wipe_ne w mem ⟨k, y⟩⟩
  rw [List.set_set] at w3
  refine ⟨_, w3, Same.refl _, fun b o q nb => ?_, fun b q => ?_, fun b q => .inl q⟩
  · rw [upd_ne fun z => nb (by rw [z]; exact ⟨i, mem⟩)]
    exact q
  · rcases own_set q with z | z
    · cases List.mem_singleton.mp z; exact .inl ⟨i, mem⟩
    · exact .inl (own_wipe z)
theorem putK_rep {K : PySem.W.Frag} {J : Hp} {α : Type} [DecidableEq α] {kf : α → PyData} (hk : ∀ a b, keq (kf a) (kf b) = decide (a = b)) {ks : List (α × V)} {kvs : List (PyData × PyData)} {k : α} {v : V} {d : PyData} (h1 : kvs.map (·.1) = ks.map (fun k => kf k.1)) (h2 : ShAll K J (ks.map (·.2)) (kvs.map (·.2))) (hv : Sh K J v d) :
    (putD (kf k) d kvs).map (·.1) = (putK ks k v).map (fun k => kf k.1) ∧ ShAll K J ((putK ks k v).map (·.2)) ((putD (kf k) d kvs).map (·.2)) := by
  have hs : (lookD (kf k) kvs).isSome = (ks.any fun kv => decide (kv.1 = k)) := by
    rw [valV_any, ← isSome_of (lookD_dk hk k h1 h2)]
  unfold putD putK
  rw [hs]
  by_cases hb : (ks.any fun kv => decide (kv.1 = k)) = true
  · rw [if_pos hb, if_pos hb]
    clear hb hs
    induction ks generalizing kvs with
    | nil =>
      cases kvs with
      | nil => exact ⟨rfl, .nil⟩
      | cons _ _ => simp at h1
    | cons a ks ih =>
      cases kvs with
      | nil => simp at h1
      | cons b kvs =>
        simp only [List.map_cons, List.cons.injEq] at h1
        cases h2 with
        | cons g1 g2 =>
          obtain ⟨i1, i2⟩ := ih h1.2 g2
          simp only [List.map_cons, h1.1, hk]
          by_cases e : a.1 = k
          · simp only [e, decide_true, if_true]
            exact ⟨by rw [i1, ← e, ← h1.1], .cons hv i2⟩
          · simp only [e, decide_false, Bool.false_eq_true, if_false]
            exact ⟨by rw [i1, ← h1.1], .cons g1 i2⟩
  · rw [if_neg hb, if_neg hb]
    exact ⟨by simp [h1], by simpa using shsApp h2 (.cons hv .nil)⟩
theorem DRep.put {K : PySem.W.Frag} {H J : Hp} {a : Addr} {ho : HO} {t : Bool} {kvs : List (PyData × PyData)} {v u : V} {d x : PyData} (h : DRep K J ho t kvs) (sm : Same J H) (ha : H a = some ho) (hk : KeyV H v t d) (hl : kvs.length < 16777216) (hv : Sh K J u x) :
    ∃ ho', DPut H a v u (upd H a ho') ∧ DRep K J ho' t (putD d x kvs) := by
  cases t with
  | false =>
    obtain ⟨ks, rfl, h1, h2⟩ := h
    obtain ⟨k, rfl, rfl⟩ := hk
    have e : ks.length = kvs.length := by simpa using (congrArg List.length h1).symm
    obtain ⟨p1, p2⟩ := putK_rep (k := k) (v := u) (d := x) keq_dk h1 h2 hv
    exact ⟨_, DPut.k ha (by rw [e, sizeLine_eq]; exact hl), _, rfl, p1, p2⟩
  | true =>
    obtain ⟨ks, rfl, h1, h2⟩ := h
    obtain ⟨b, k, rfl, hb, rfl⟩ := hk
    have e : ks.length = kvs.length := by simpa using (congrArg List.length h1).symm
    obtain ⟨p1, p2⟩ := putK_rep (kf := fun (k : List Key) => PyData.tuple (k.map keyDK)) (k := k) (v := u) (d := x) keq_dt h1 h2 hv
    exact ⟨_, DPut.t ha hb (by rw [e, sizeLine_eq]; exact hl), _, rfl, p1, p2⟩
theorem set_or {X : Cx} {t t' : TSet} (h : PSet X t) (h' : PSet X t') : PSet X (fun o i v H Q => t o i v H Q ∨ t' o i v H Q) := fun pins s sg H o i v ov iv u Q I ro ri rv q => q.elim (h pins s sg H o i v ov iv u Q I ro ri rv) (h' pins s sg H o i v ov iv u Q I ro ri rv)
theorem Wf.anyAt {K : PySem.W.Frag} {H J : Hp} {sg : St} {r : Ro} {fp : Nat → List Addr} (w : Wf K H J sg r fp) {i : Nat} {o : Option V} (e : r[i]? = some .non) : Wf K H J (sg.set i o) r fp where
  same := w.same
  len := by rw [List.length_set]; exact w.len
  rep := fun j s ej ne => by
    by_cases z : j = i
    · rw [z, e] at ej; cases ej; exact absurd rfl ne
    · rw [List.getElem?_set_ne fun q => z q.symm]
      exact w.rep j s ej ne
  emp := w.emp
  dis := w.dis
  jn := w.jn
/-- a def's own frame -/
structure Frm (X : Cx) : Prop where
  hs : X.stack = X.env :: X.outer
  hf : X.env.frame = some X.env.locals
  hx : X.ex = []
theorem Frm.tr {X : Cx} (f : Frm X) (pn : List (Addr × Obj)) (xe : Value → Shared → Prop) : Frm (X.tr pn xe) := ⟨f.hs, f.hf, f.hx⟩
theorem isV_suite {X : Cx} {a : Addr} {pn : List (Addr × Obj)} (g : Good P N k Phi X sc fb) {i : Nat} {x : Str} {pos : Pos} (h : isV N sc i x = true) : PE (X.suite a pn) (.Name x pos) (tVar i) := by
  unfold isV at h
  simp only [Bool.and_eq_true, decide_eq_true_eq, Bool.not_eq_true'] at h
  obtain ⟨⟨⟨h1, h2⟩, h3⟩, h4⟩ := h
  refine pe_var (by show X.N[i]? = _; rw [g.hN]; exact h1) ?_ h3 h4
  show Vis X.env.scope x
  rw [g.hsc]
  unfold Vis
  split at h2 <;> first | (rename_i e; rw [e]; simp) | cases h2
theorem noDC {c : CE} {e : Expr} (h : okE P.tx N sc c e = true) : (∀ a b c d e', e ≠ .DictComp a b c d e') ∧ (∀ a b c d, e ≠ .SetComp a b c d) := by
  constructor
  · rintro a b c' d e' rfl
    cases c <;> simp [okE, opForm, mthd, badE] at h
  · rintro a b c' d rfl
    cases c <;> simp [okE, opForm, mthd, badE] at h
theorem notLcSw {e : Expr} {l : Nat} {env : Env} (h : isLc e = false) : swapsWith e none l env = pure false := by
  cases e <;> first | rfl | (simp [isLc] at h)
theorem seq_read {s : CS} {ss : CSs} {D : Ends} {sg : St} {H : Hp} (h : tSs X.K W fu Phi (asgd s ++ asgds ss) (.cons s ss) D sg H) : tSeq (tS X.K W fu Phi (asgd s) s) (tSs X.K W fu Phi (asgds ss) ss) D sg H := by
  obtain ⟨J, r, fp, w, f⟩ := h
  refine ⟨J, r, fp, w, ?_⟩
  simp only [exs] at f
  have m1 : ∀ i ∈ asgd s, i ∈ asgd s ++ asgds ss := fun i z => List.mem_append.mpr (.inl z)
  have m2 : ∀ i ∈ asgds ss, i ∈ asgd s ++ asgds ss := fun i z => List.mem_append.mpr (.inr z)
  cases e : ex fu Phi s r with
  | bad => rw [e] at f; exact f
  | ex c fs r1 => rw [e] at f; exact fun sg' H' J' fp' cls d w a q t => f sg' H' J' fp' cls d w (a.mono m1) q t
  | ok fl r1 =>
    rw [e] at f
    cases fl with
    | ret z => exact fun v sg' H' J' fp' g w a q n t => f v sg' H' J' fp' g w (a.mono m1) q n t
    | nx => exact fun sg' H' J' fp' w a t => ⟨J', r1, fp', w, FinS.mono m2 (FinS.later (a.mono m1) t f)⟩

mutual
theorem soundS : ∀ (c : CS) {X : Cx} {W : WX} {st : Stmt}, Good P N k Phi X sc fb → Frm X → Takes X W → PassesOwn (model X.prog X.w) X.A X.env X.xe → okS P.tx N sc fb c st = true → PS X st (tS X.K W fu Phi (asgd c) c)
  | .set (.name i) c, X, W, st, g, fr, tk, hp, h => by
    unfold okS at h
    split at h <;> first | (rename_i q; cases q; done) | skip
    all_goals first | (cases h; done) | skip
    rename_i _ _ x py e _ q
    cases q
    simp only [Bool.and_eq_true, Bool.not_eq_true'] at h
    obtain ⟨⟨h1, h2⟩, h3⟩ := h
    obtain ⟨a1, a2, a3⟩ := isL_ok (pos := py) g h1
    obtain ⟨d1, d2⟩ := noDC h2
    refine PS.imp (ps_set (by rw [g.hN]; exact g.nd) a1 a2 (sound c g tk h2).1 (by rw [sw_eq g.hsc g.kd d1 d2, h3]) a3) fun D sg H ⟨J, r, fp, w, f⟩ => ?_
    simp only [ex] at f
    exact ⟨J, r, fp, w, store_read (by simp [asgd, slotsT]) f⟩
  | .set (.tup ts) c, X, W, st, g, fr, tk, hp, h => by
    unfold okS at h
    split at h <;> first | (rename_i q; cases q; done) | skip
    all_goals first | (cases h; done) | skip
    rename_i _ _ l kk p e _ q
    cases q
    simp only [Bool.and_eq_true] at h
    obtain ⟨⟨h1, h2⟩, h3⟩ := h
    obtain ⟨d1, d2⟩ := noDC h2
    refine PS.imp (ps_asg (PE.sh (sound c g tk h2).1) (soundT g h1) ?_ ?_) fun D sg H ⟨J, r, fp, w, f⟩ => ?_
    · cases e <;> first | rfl | (simp at h3; done) | skip
    · cases e <;> first | rfl | (simp at h3; done) | skip
    · simp only [ex] at f
      refine ⟨J, r, fp, w, FinS.bindD f fun d r1 v H1 J1 fp1 _ w1 q t1 f1 => ?_⟩
      cases ea : asg (.tup ts) d r1 with
      | none => rw [ea] at f1; exact f1.elim
      | some r2 =>
        rw [ea] at f1
        exact asg_ok ea w1 q fun sg' fp' w' o' a' => f1 sg' H1 J1 fp' w' a' (Step.refl.weak o')
  | .setLc i c, X, W, st, g, fr, tk, hp, h => by
    unfold okS at h
    split at h <;> first | (rename_i q; cases q; done) | skip
    all_goals first | (cases h; done) | skip
    rename_i _ elt tg it cond own x py e _ q
    cases q
    simp only [Bool.and_eq_true, decide_eq_true_eq] at h
    obtain ⟨⟨⟨h1, h2⟩, h3⟩, h4⟩ := h
    obtain ⟨d1, d2⟩ := noDC h3
    have hsw := sw_eq (l := 0) (x := x) (py := py) g.hsc g.kd d1 d2
    cases e <;> try simp only [okE, Bool.false_eq_true] at h3
    rename_i e gs scope pos
    match gs, h3 with
    | [], h3 => simp only [okE, Bool.false_eq_true] at h3
    | _ :: _ :: _, h3 => simp only [okE, Bool.false_eq_true] at h3
    | [⟨t, i', ifs, a⟩], h3 =>
      by_cases ha : a = 0
      · subst ha
        simp only [okE, Bool.and_eq_true] at h3
        obtain ⟨⟨⟨⟨⟨k1, k2⟩, k3⟩, k4⟩, k5⟩, k6⟩ := h3
        have bk := blkOk_by k1
        have hso : ∀ j ∈ slotsT tg, j ∈ own.map (·.2) := fun j q => of_decide_eq_true (List.all_eq_true.mp k6 j q)
        refine PS.imp (ps_setLc (own := own) (wi := tI X.K W Phi it) (g := tT X.K tg) (tt := tCs X.K W0 Phi cond) (te := tSh X.K W0 Phi elt) g.calm (by rw [g.hN]; exact g.nd) (by rw [g.hN]; exact h1) (by rw [g.hsc]; exact h2) (by rw [sw_eq g.hsc g.kd d1 d2, h4]) (soundI it g tk k3) (by rw [g.hN, g.hsc]; exact bk) (fun s H C cl fp => soundT (g.blk bk.kind) k2) (fun s H C cl fp => soundC cond (g.blk bk.kind) takes0 k4)
          (fun s H C cl fp => PE.sh (sound elt (g.blk bk.kind) takes0 k5).1) (foldS (notSetI k3))) fun D sg H ⟨J, r, fp, w, f⟩ => ?_
        simp only [ex] at f
        exact lc_read hso ⟨J, r, fp, w, store_read (by simp [asgd]) f⟩
      · exfalso
        have : okE P.tx N sc (.lc elt tg it cond own) (.ListComp e [⟨t, i', ifs, a⟩] scope pos) = false := by
          unfold okE
          split <;> first | rfl | (rename_i q; simp_all)
        rw [this] at h3
        cases h3
  | .move i j, X, W, st, g, fr, tk, hp, h => by
    unfold okS at h
    split at h <;> first | (rename_i q; cases q; done) | skip
    all_goals first | (cases h; done) | skip
    rename_i _ _ _ x py y pp pos q
    cases q
    simp only [Bool.and_eq_true, decide_eq_true_eq] at h
    obtain ⟨⟨h1, h2⟩, h3⟩ := h
    obtain ⟨a1, a2, a3⟩ := isL_ok (pos := py) g h1
    refine PS.imp (ps_set (by rw [g.hN]; exact g.nd) a1 a2 (isV_ok g h2) rfl a3) fun D sg H ⟨J, r, fp, w, f⟩ => ?_
    simp only [ex] at f
    split at f
    · rename_i ds ed
      obtain ⟨v, hv, q⟩ := w.rep j _ ed (fun z => nomatch z)
      refine ⟨v, hv, ?_⟩
      simp only [asgN] at f
      split at f
      · rename_i r2 e
        split at e
        · rename_i hi
          cases e
          have hi := of_decide_eq_true hi
          refine f _ H J (fpSet (fpSet fp j []) i (fp j)) ((w.drop j).put hi q fun b z => ⟨(w.jn j b z).1, fun l _ y => own_wipe_ne w z ⟨l, y⟩⟩) (.set (by simp [asgd])) (Step.refl.weak fun b z => (own_set z).elim (fun z => ⟨j, z⟩) own_wipe)
        · cases e
      · exact f.elim
    · rename_i tt kvs ed
      obtain ⟨v, hv, q⟩ := w.rep j _ ed (fun z => nomatch z)
      refine ⟨v, hv, ?_⟩
      simp only [asgN] at f
      split at f
      · rename_i r2 e
        split at e
        · rename_i hi
          cases e
          have hi := of_decide_eq_true hi
          refine f _ H J (fpSet (fpSet fp j []) i (fp j)) ((w.drop j).put hi q fun b z => ⟨(w.jn j b z).1, fun l _ y => own_wipe_ne w z ⟨l, y⟩⟩) (.set (by simp [asgd])) (Step.refl.weak fun b z => (own_set z).elim (fun z => ⟨j, z⟩) own_wipe)
        · cases e
      · exact f.elim
    · rename_i d ed
      obtain ⟨v, hv, q⟩ := w.rep j _ ed (fun z => nomatch z)
      refine ⟨v, hv, ?_⟩
      simp only [asgN] at f
      split at f
      · rename_i r2 e
        split at e
        · rename_i hi
          cases e
          exact f _ H J _ (w.putSh (of_decide_eq_true hi) q.2) (.set (by simp [asgd])) (Step.refl.weak fun b z => own_wipe z)
        · cases e
      · exact f.elim
    · exact f.elim
  | .aug i o c, X, W, st, g, fr, tk, hp, h => by
    unfold okS at h
    split at h <;> first | (rename_i q; cases q; done) | skip
    all_goals first | (cases h; done) | skip
    rename_i _ _ _ x py op e pos q
    cases q
    simp only [Bool.and_eq_true, Bool.or_eq_true, decide_eq_true_eq] at h
    obtain ⟨⟨h1, h2⟩, h3⟩ := h
    obtain ⟨a1, a2, a3⟩ := isL_ok (pos := py) g h1
    have he := PE.sh (sound c g tk h3).1
    have key : ∀ {ff : Int → Int → Int}, (∀ x y, prim o [.int x, .int y] = some (.sh (.int (ff x y)))) → (∀ x d s, prim o [.int x, d] = some s → ∃ y, d = .int y) → PIp X op (ipI ff) → PS X (.AugAssign (.Name x py) op e pos) (tS X.K W fu Phi (asgd (.aug i o c)) (.aug i o c)) := by
      intro ff hff hint hip
      refine PS.imp (ps_aug (by rw [g.hN]; exact g.nd) a1 a2 he hip a3) fun D sg H ⟨J, r, fp, w, f⟩ => ?_
      simp only [ex] at f
      split at f
      · rename_i n en
        obtain ⟨v, hv, q⟩ := w.rep i _ en (fun z => nomatch z)
        obtain ⟨_, q⟩ := q
        cases q
        refine ⟨_, hv, J, r, fp, w, FinS.bindD f fun d r1 v H1 J1 fp1 _ w1 q t1 f1 => ?_⟩
        cases ep : prim o [.int n, d] with
        | none => rw [ep] at f1; exact f1.elim
        | some s =>
          obtain ⟨y, rfl⟩ := hint n d s ep
          cases q
          rw [hff] at f1
          refine ⟨n, y, rfl, rfl, ?_⟩
          simp only [asgN] at f1
          split at f1
          · rename_i r2 e2
            split at e2
            · rename_i hi
              cases e2
              exact f1 _ H1 J1 _ (w1.putSh (of_decide_eq_true hi) (.int _)) (.set (by simp [asgd])) (Step.refl.weak fun b z => own_wipe z)
            · cases e2
          · exact f1.elim
      · exact f.elim
    rcases h2 with ⟨rfl, rfl⟩ | ⟨rfl, rfl⟩
    · refine key (ff := fun a b => a + b) (fun x y => rfl) (fun x d s q => ?_) ip_add
      cases d <;> first | exact ⟨_, rfl⟩ | (simp [prim, pAdd] at q)
    · refine key (ff := fun a b => a - b) (fun x y => rfl) (fun x d s q => ?_) ip_sub
      cases d <;> first | exact ⟨_, rfl⟩ | (simp [prim, pSub] at q)
  | .ite c a b, X, W, st, g, fr, tk, hp, h => by
    unfold okS at h
    split at h <;> first | (rename_i q; cases q; done) | skip
    all_goals first | (cases h; done) | skip
    rename_i _ _ _ _ e l m _ q
    cases q
    simp only [Bool.and_eq_true] at h
    obtain ⟨⟨h1, h2⟩, h3⟩ := h
    refine PS.imp (ps_if (sound c g tk h1).2.1 (soundSs a g fr tk hp h2) (soundSs b g fr tk hp h3)) fun D sg H ⟨J, r, fp, w, f⟩ => ?_
    simp only [ex] at f
    refine ⟨J, r, fp, w, FinS.bindB f fun x r1 H1 J1 fp1 _ w1 f1 => ?_⟩
    cases x with
    | true =>
      rw [if_pos rfl]
      exact ⟨J1, r1, fp1, w1, FinS.mono (fun i z => List.mem_append.mpr (.inl z)) f1⟩
    | false =>
      rw [if_neg Bool.false_ne_true]
      exact ⟨J1, r1, fp1, w1, FinS.mono (fun i z => List.mem_append.mpr (.inr z)) f1⟩
  | .for_ t it b, X, W, st, g, fr, tk, hp, h => by
    unfold okS at h
    split at h <;> first | (rename_i q; cases q; done) | skip
    all_goals first | (cases h; done) | skip
    rename_i _ _ _ _ tg e l _ q
    cases q
    simp only [Bool.and_eq_true] at h
    obtain ⟨⟨⟨h1, h2⟩, h3⟩, h4⟩ := h
    exact PS.imp (ps_for hp g.calm (soundI it g tk h2) (soundT g h1) (soundSs b g fr tk hp h3) (foldS (notSetI h2))) fun D sg H q => for_read (fun i z => of_decide_eq_true (List.all_eq_true.mp h4 i z)) q
  | .while_ c b, X, W, st, g, fr, tk, hp, h => by
    unfold okS at h
    split at h <;> first | (rename_i q; cases q; done) | skip
    all_goals first | (cases h; done) | skip
    rename_i _ _ _ e l _ q
    cases q
    simp only [Bool.and_eq_true] at h
    exact PS.imp (ps_while hp (sound c g tk h.1).2.1 (soundSs b g fr tk hp h.2)) fun D sg H q => while_read q
  | .ret c, X, W, st, g, fr, tk, hp, h => by
    unfold okS at h
    split at h <;> first | (rename_i q; cases q; done) | skip
    all_goals first | (cases h; done) | skip
    · rename_i _ c' e pos q
      cases q
      have s1 := (sound c g tk h).1
      have gen : (∀ r, ex fu Phi (.ret c) r = (ev Phi c r).bind fun s r1 => .ok (.ret s) r1) → PS X (.Return (some e) pos) (tS X.K W fu Phi (asgd (.ret c)) (.ret c)) := fun e1 => by
        refine PS.imp (ps_ret s1) fun D sg H ⟨J, r, fp, w, f⟩ => ⟨J, r, fp, w, ?_⟩
        rw [e1] at f
        refine FinS.bindS f fun s r1 v H1 J1 fp1 g _ w1 q n t f1 => f1 v sg H1 J1 fp1 g w1 .refl q n t
      cases c with
      | var i =>
        cases e <;> try simp only [okE, Bool.false_eq_true] at h
        refine PS.imp (ps_ret (isV_ok g h)) fun D sg H ⟨J, r, fp, w, f⟩ => ?_
        simp only [ex] at f
        split at f
        · rename_i d ed
          obtain ⟨v, hv, q⟩ := w.rep i _ ed (fun z => nomatch z)
          exact ⟨v, hv, f v sg H J fp [] w .refl ⟨rfl, q.2⟩ (fun b z => nomatch z) (nil_step Step.refl)⟩
        · rename_i ds ed
          obtain ⟨v, hv, q⟩ := w.rep i _ ed (fun z => nomatch z)
          exact ⟨v, hv, f v sg H J (fpSet fp i []) (fp i) (w.drop i) .refl q (fun b z => ⟨(w.jn i b z).1, own_wipe_ne w z⟩) (Step.refl.weak fun b z => z.elim own_wipe fun z => ⟨i, z⟩)⟩
        · rename_i tt ds ed
          obtain ⟨v, hv, q⟩ := w.rep i _ ed (fun z => nomatch z)
          exact ⟨v, hv, f v sg H J (fpSet fp i []) (fp i) (w.drop i) .refl q (fun b z => ⟨(w.jn i b z).1, own_wipe_ne w z⟩) (Step.refl.weak fun b z => z.elim own_wipe fun z => ⟨i, z⟩)⟩
        · exact f.elim
      | _ => exact gen fun r => by simp only [ex]
    · rename_i q
      injection q with q
      subst q
      refine PS.imp ps_retN fun D sg H ⟨J, r, fp, w, f⟩ => ?_
      simp only [ex, ev, R.ok_bind] at f
      exact f .non sg H J fp [] w .refl ⟨rfl, .non⟩ (fun b z => nomatch z) (nil_step Step.refl)
  | .expr c, X, W, st, g, fr, tk, hp, h => by
    unfold okS at h
    split at h <;> first | (rename_i q; cases q; done) | skip
    all_goals first | (cases h; done) | skip
    rename_i _ _ e _ q
    cases q
    simp only [Bool.and_eq_true, Bool.not_eq_true'] at h
    refine PS.imp (ps_expr (sound c g tk h.1).1 (notLcSw h.2)) fun D sg H ⟨J, r, fp, w, f⟩ => ⟨J, r, fp, w, ?_⟩
    simp only [ex] at f
    refine FinS.bindS f fun s r1 v H1 J1 fp1 g _ w1 q n t f1 => f1 sg H1 J1 fp1 w1 .refl (t.weak fun b z => .inl z)
  | .append i c, X, W, st, g, fr, tk, hp, h => by
    unfold okS at h
    split at h <;> first | (rename_i q; cases q; done) | skip
    all_goals first | (cases h; done) | skip
    rename_i _ _ _ e _ q
    cases q
    split at h
    · rename_i x hx
      obtain ⟨y, p, ap, cp, rfl, hv, hs, hl⟩ := mthd_ok hx
      have he := PE.sh (sound c g tk h).1
      refine PS.imp (ps_expr (meth_list g PySem.F.slot_list_append PySem.F.type_list_append mt_append hv hs hl he) (notLcSw rfl)) fun D sg H ⟨J, r, fp, w, f⟩ => ?_
      simp only [ex] at f
      split at f
      · rename_i ds0 ed0
        obtain ⟨v, hv, a, xs0, rfl, hg0, ha0, hd0⟩ := w.rep i _ ed0 (fun z => nomatch z)
        refine ⟨_, hv, .inl ⟨rfl, xs0, .of ha0⟩, J, r, fp, w, FinS.bindD f fun d r1 v1 H1 J1 fp1 ee w1 q t1 f1 => ?_⟩
        clear ee
        split at f1
        · rename_i ds ed
          split at f1
          · rename_i hlen
            obtain ⟨xs, ha, hd, key⟩ := own_write w1 hv ed
            exact ⟨a, xs, v1, rfl, rfl, ha, by rw [shsLen hd, sizeLine_eq]; exact of_decide_eq_true hlen, let ⟨fp2, w2, t2⟩ := key (shsApp hd (.cons q .nil)); f1 sg _ J1 fp2 w2 .refl t2⟩
          · exact f1.elim
        · exact f1.elim
      · exact f.elim
    · cases h
  | .extend i c, X, W, st, g, fr, tk, hp, h => by
    unfold okS at h
    split at h <;> first | (rename_i q; cases q; done) | skip
    all_goals first | (cases h; done) | skip
    rename_i _ _ _ e _ q
    cases q
    split at h
    · rename_i x hx
      obtain ⟨y, p, ap, cp, rfl, hv, hs, hl⟩ := mthd_ok hx
      have he := PE.sh (sound c g tk h).1
      refine PS.imp (ps_expr (meth_list g PySem.F.slot_list_extend PySem.F.type_list_extend mt_extend hv hs hl he) (notLcSw rfl)) fun D sg H ⟨J, r, fp, w, f⟩ => ?_
      simp only [ex] at f
      split at f
      · rename_i ds0 ed0
        obtain ⟨v, hv, a, xs0, rfl, hg0, ha0, hd0⟩ := w.rep i _ ed0 (fun z => nomatch z)
        refine ⟨_, hv, .inl ⟨rfl, xs0, .of ha0⟩, J, r, fp, w, FinS.bindD f fun d r1 v1 H1 J1 fp1 ee w1 q t1 f1 => ?_⟩
        clear ee
        split at f1
        · rename_i ds ys ed
          split at f1
          · rename_i hlen
            cases q with
            | lst hb hz =>
              obtain ⟨xs, ha, hd, key⟩ := own_write w1 hv ed
              exact ⟨a, _, xs, _, rfl, rfl, ha, w1.same _ _ hb, by rw [shsLen hd, shsLen hz, sizeLine_eq]; exact of_decide_eq_true hlen, let ⟨fp2, w2, t2⟩ := key (shsApp hd hz); f1 sg _ J1 fp2 w2 .refl t2⟩
          · exact f1.elim
        · exact f1.elim
      · exact f.elim
    · cases h
  | .setItem i kk c, X, W, st, g, fr, tk, hp, h => by
    unfold okS at h
    split at h <;> first | (rename_i q; cases q; done) | skip
    all_goals first | (cases h; done) | skip
    rename_i _ _ _ _ x px s ps e _ q
    cases q
    simp only [Bool.and_eq_true, Bool.not_eq_true'] at h
    obtain ⟨⟨⟨h1, h2⟩, h3⟩, h4⟩ := h
    have he := PE.sh (sound c g tk h3).1
    have hk := PE.sh (sound kk g tk h2).1
    have hu : X.A.units + 1 < cLine := by have := g.room.un; omega
    refine PS.imp (ps_asg he (pg_sub (isV_ok g h1) hk (set_or set_list (set_dict hu)) ?_) ?_ ?_) fun D sg H ⟨J, r, fp, w, f⟩ => ?_
    · intro v
      cases s <;> first | rfl | (simp [isSlice] at h4)
    · cases e <;> rfl
    · cases e <;> rfl
    · simp only [ex] at f
      refine ⟨J, r, fp, w, FinS.bindD f fun d r1 v H1 J1 fp1 ee w1 q t1 f1 => ?_⟩
      clear ee
      split at f1
      · rename_i ds0 ed0
        obtain ⟨v', hv, a, xs0, rfl, hg0, ha0, hd0⟩ := w1.rep i _ ed0 (fun z => nomatch z)
        refine ⟨_, hv, J1, r1, fp1, w1, FinS.bindD f1 fun z r2 v2 H2 J2 fp2 ee w2 q2 t2 f2 => ?_⟩
        clear ee
        split at f2
        · rename_i n ds ed
          split at f2
          · rename_i j hj
            cases q2
            obtain ⟨xs, ha, hd, key⟩ := own_write w2 hv ed
            exact .inl ⟨a, xs, n, j, rfl, rfl, ha, by rw [shsLen hd]; exact hj, let ⟨fp3, w3, t3⟩ := key (shsSet (shMono t2.js q) hd); f2 sg _ J2 fp3 w3 .refl t3⟩
          · exact f2.elim
        · exact f2.elim
      · rename_i tt0 kv0 ed0
        obtain ⟨v', hv, a, ho0, rfl, hg0, ha0, hd0⟩ := w1.rep i _ ed0 (fun z => nomatch z)
        refine ⟨_, hv, J1, r1, fp1, w1, FinS.bindD f1 fun z r2 v2 H2 J2 fp2 ee w2 q2 t2 f2 => ?_⟩
        clear ee
        split at f2
        · rename_i tt kvs ed
          split at f2
          · rename_i hc
            simp only [Bool.and_eq_true, decide_eq_true_eq] at hc
            obtain ⟨ho, ha, hd, key⟩ := own_writeD w2 hv ed
            obtain ⟨ho', hput, hd'⟩ := hd.put w2.same ha (Vw.key w2.same (.inl q2) hc.1) hc.2 (shMono t2.js q)
            obtain ⟨fp3, w3, t3⟩ := key hd'
            exact .inr ⟨a, _, rfl, hput, f2 sg _ J2 fp3 w3 .refl t3⟩
          · exact f2.elim
        · exact f2.elim
      · exact f1.elim
  | .raise_ c f es, X, W, st, g, fr, tk, hp, h => by
    unfold okS at h
    split at h <;> first | (rename_i q; cases q; done) | skip
    all_goals first | (cases h; done) | skip
    · rename_i _ _ _ x p1 m jj p2 p3 p4 q
      cases q
      simp only [Bool.and_eq_true, decide_eq_true_eq] at h
      obtain ⟨⟨hg, hl⟩, rfl⟩ := h
      obtain ⟨h1, h2⟩ := isG_ok g hg
      obtain ⟨e1, e2, e3, e4, e5, e6⟩ := g.ers.rs x c hl
      refine PS.imp (ps_raise g.calm tk (pmk_own PySem.F.excBase_ValueError e4 e2 e3 (raises_own e5 e6) h1 h2)) fun D sg H ⟨J, r, fp, w, f⟩ => ?_
      simp only [ex] at f
      exact f sg H J fp (.ref (Errs.ca c)) none w .refl ⟨e1, rfl, .inl ⟨rfl, rfl⟩⟩ Step.refl
    · rename_i _ _ _ c1 x p1 a p2 p3 q
      cases q
      simp only [Bool.and_eq_true, decide_eq_true_eq] at h
      obtain ⟨⟨⟨hg, hl⟩, hne⟩, hc⟩ := h
      obtain ⟨h1, h2⟩ := isG_ok g hg
      obtain ⟨e1, e2, T, hno, fI, C0, fd, qu, st0, iC, tI, F, S, hf, B, hb⟩ := g.ers.rf x c f hl hne
      have s1 := star_ok (env := X.env) (es := []) (okE_star hc)
      have ps : Passes (L2.CX X.prog X.w) X (fun _ _ _ => False) := by
        intro pins sg H s e s' I h
        obtain ⟨_, _, _, _, _, _, _, _, _, _, _, _, z⟩ := h
        exact z.elim
      refine PS.imp (ps_raise g.calm tk (pmk_oex T iC tI (init_ok F S hf B) (g.room.mono (by omega)) hb .nil ps h1 e2 (pa_cons (PE.sh (sound c1 g tk hc).1) pa_nil s1) h2 s1 rfl)) fun D sg H ⟨J, r, fp, w, f1⟩ => ?_
      simp only [ex] at f1
      refine ⟨J, r, fp, w, FinS.bindD f1 fun d r1 v1 H1 J1 fp1 ee w1 q1 t1 f2 => ?_⟩
      refine ⟨by show 1 ≤ 1000; decide, fun aa ha => ⟨aa, Errs.ca c, v1, rfl, T, hno, upd_same, fun dx hd hda => ⟨rfl, dx, [(Str.ofString f, v1)], upd_same, ?_, ?_, ?_⟩⟩⟩
      · rw [upd_ne hda, upd_same]
      · rw [upd_ne hda] at hd; exact hd
      · have hd1 : H1 dx = none := by rw [upd_ne hda] at hd; exact hd
        have eh : upd (del (upd (upd (upd H1 aa (exo aa (Errs.ca c) none)) dx (exd dx [(Str.ofString f, v1)])) aa (exo aa (Errs.ca c) (some dx))) aa) dx (.xd [(Str.ofString f, v1)]) = upd H1 dx (.xd [(Str.ofString f, v1)]) := by
          funext b
          by_cases hb1 : b = dx
          · rw [hb1, upd_same, upd_same]
          · rw [upd_ne hb1, upd_ne hb1]
            by_cases hb2 : b = aa
            · rw [hb2, del_same, ha]
            · rw [del_ne hb2, upd_ne hb2, upd_ne hb1, upd_ne hb2]
        rw [eh]
        have st : Step (Own fp1) H1 J1 (Own fp1) (upd H1 dx (.xd [(Str.ofString f, v1)])) (upd J1 dx (.xd [(Str.ofString f, v1)])) := step_new w1.same hd1
        exact f2 sg _ (upd J1 dx (.xd [(Str.ofString f, v1)])) fp1 (.ref (Errs.ca c)) (some dx) (w1.new hd1) .refl ⟨e1, rfl, .inr ⟨dx, _, v1, d, rfl, rfl, upd_same, shMono st.js q1⟩⟩ st
  | .try_ b cs i y, X, W, st, g, fr, tk, hp, h => by
    unfold okS at h
    split at h <;> first | (rename_i q; cases q; done) | skip
    all_goals first | (cases h; done) | skip
    rename_i _ _ _ _ _ l x p1 n z p2 m p3 p4 p5 p6 q
    cases q
    simp only [Bool.and_eq_true, decide_eq_true_eq] at h
    obtain ⟨⟨⟨⟨⟨⟨⟨⟨hb, hg⟩, hcl⟩, hi⟩, hln⟩, rfl⟩, hvm⟩, hy⟩, hne⟩ := h
    obtain ⟨h1, h2⟩ := isG_ok g hg
    obtain ⟨v, cv, hv, rv, hm, hck, hex⟩ := g.ers.cl x cs hcl
    obtain ⟨a1, a2, a3⟩ := isL_ok (pos := p2) g hy
    have hnames : Names X x cv := ⟨h1, h2, hm⟩
    have body : ∀ (W' : WX) (pn : List (Addr × Obj)) (xe : Value → Shared → Prop), Takes (X.tr pn xe) W' → PassesOwn (model X.prog X.w) X.A X.env xe → PSs (X.tr pn xe) l (tSs X.K W' fu Phi (asgds b) b) := fun W' pn xe tk' hp' => soundSs b (g.tr pn xe) (fr.tr pn xe) tk' hp' hb
    have suite : ∀ (a : Addr) (oe : Obj) (cls : Value) (d : Option Addr) (pn : List (Addr × Obj)), Zc cls d oe → (∃ vs, oe.data = .fields vs) → PSs (X.suite a ((a, oe) :: pn)) [.Assign [.Name z p2] (.Name n p3) p4] (tSeq (tAsg (tVar i) (gName y)) tNext) := by
      intro a oe cls d pn _ _
      have gV : PE (X.suite a ((a, oe) :: pn)) (.Name n p3) (tVar i) := by
        exact isV_suite g hvm
      exact pss_cons (ps_set (X := X.suite a ((a, oe) :: pn)) (i := y) (by show X.N.Nodup; rw [g.hN]; exact g.nd) a1 a2 gV rfl a3) pss_nil
    refine PS.imp (ps_try_keep fr.hs fr.hf fr.hx (by rw [g.hN]; exact g.nd) (by rw [g.hN]; exact hi) (by show X.env.scope.names.lookup n = _; rw [g.hsc]; exact hln) hnames tk body suite) fun D sg H ⟨J, r, fp, w, f⟩ => ⟨J, r, fp, w, ?_⟩
    simp only [ex] at f
    have m1 : ∀ j ∈ asgds b, j ∈ asgds b ++ [i, y] := fun j z => List.mem_append.mpr (.inl z)
    cases e : exs fu Phi b r with
    | bad => rw [e] at f; exact f
    | ok fl r1 =>
      rw [e] at f
      cases fl with
      | nx => exact fun sg' H' J' fp' w' ag t => f sg' H' J' fp' w' (ag.mono m1) t
      | ret s => exact fun v sg' H' J' fp' g w' ag q n t => f v sg' H' J' fp' g w' (ag.mono m1) q n t
    | ex c fs r1 =>
      rw [e] at f
      simp only at f
      intro sg1 H1 J1 fp1 cls d w1 ag1 q1 t1
      obtain ⟨hc, rfl, q1⟩ := q1
      refine ⟨decide (c ∈ cs), hex c hc, fun hyes a ha => ?_, fun hno => ?_⟩
      · rw [if_pos hyes] at f
        split at f
        · rename_i hil
          have hil := of_decide_eq_true hil
          have hls : i < sg1.length := by rw [w1.len]; exact hil
          refine ⟨.ref a, List.getElem?_set_self hls, ?_⟩
          show D.nx _ _
          simp only [asgN] at f
          split at f
          · rename_i r3 e3
            split at e3
            · rename_i hy3
              cases e3
              have hy3 := of_decide_eq_true hy3
              have ja : J1 a = none := by
                cases ej : J1 a with
                | none => rfl
                | some o => rw [w1.same _ _ ej] at ha; cases ha
              have st : Step (Own fp1) H1 J1 (Own fp1) (upd H1 a (XO (.ref (Errs.ca c)) d a)) (upd J1 a (XO (.ref (Errs.ca c)) d a)) := step_new w1.same ha
              have sh : Sh X.K (upd J1 a (XO (.ref (Errs.ca c)) d a)) (.ref a) (excD c fs) := by
                rcases q1 with ⟨rfl, rfl⟩ | ⟨dd, ff, vv, xx, rfl, rfl, hdd, hsh⟩
                · exact .exc0 hc upd_same
                · exact .exc1 hc upd_same (by rw [upd_ne (ne_of_none hdd ja)]; exact hdd) (shMono st.js hsh)
              have w2 := ((w1.new (o := XO (.ref (Errs.ca c)) d a) ha).drop i).anyAt (i := i) (o := none) (by rw [List.getElem?_set_self hil])
              have w3 := w2.putSh (i := y) hy3 sh
              have esg : ((sg1.set i (some (V.ref a))).set y (some (V.ref a))).set i none = (sg1.set i none).set y (some (V.ref a)) := by
                rw [List.set_comm _ _ (fun z => hne z.symm), List.set_set]
              rw [esg]
              refine f _ _ _ _ w3 ?_ (t1.trans (st.weak fun b z => own_wipe (own_wipe z)))
              exact (ag1.mono m1).trans ((Agree.set (by simp)).trans (Agree.set (by simp)))
            · cases e3
          · exact f.elim
        · exact f.elim
      · rw [if_neg (by rw [hno]; exact Bool.false_ne_true)] at f
        exact f sg1 H1 J1 fp1 _ d w1 (ag1.mono m1) ⟨hc, rfl, q1⟩ t1
  | .pass, X, W, st, g, fr, tk, hp, h => by
    unfold okS at h
    split at h <;> first | (rename_i q; cases q; done) | skip
    all_goals first | (cases h; done) | skip
    exact PS.imp ps_pass fun D sg H ⟨J, r, fp, w, f⟩ => f sg H J fp w .refl Step.refl
theorem soundSs : ∀ (cs : CSs) {X : Cx} {W : WX} {l : List Stmt}, Good P N k Phi X sc fb → Frm X → Takes X W → PassesOwn (model X.prog X.w) X.A X.env X.xe → okSs P.tx N sc fb cs l = true → PSs X l (tSs X.K W fu Phi (asgds cs) cs)
  | .nil, X, W, l, g, fr, tk, hp, h => by
    cases l with
    | cons _ _ => simp [okSs] at h
    | nil => exact PSs.imp pss_nil fun D sg H ⟨J, r, fp, w, f⟩ => f sg H J fp w .refl Step.refl
  | .cons s ss, X, W, l, g, fr, tk, hp, h => by
    cases l with
    | nil => simp [okSs] at h
    | cons x l =>
      simp only [okSs, Bool.and_eq_true] at h
      exact PSs.imp (pss_cons (soundS s g fr tk hp h.1) (soundSs ss g fr tk hp h.2)) fun D sg H q => seq_read q
end
end
end Ev
end

section
set_option Elab.async false
set_option linter.all false
set_option maxRecDepth 100000
set_option maxHeartbeats 4000000
namespace Ev
open PySem L2
variable [Errs]

theorem okArgs_get {muts : List Nat} : ∀ {args : Ro} {n : Nat}, okArgs muts n args = true → ∀ i s, args[i]? = some s → (∃ d, s = .sh d) ∨ n + i ∈ muts
  | [], n, _, i, s, e => by simp at e
  | .sh d :: r, n, h, i, s, e => by
    simp only [okArgs] at h
    cases i with
    | zero => simp at e; exact .inl ⟨d, e.symm⟩
    | succ i =>
      have := okArgs_get h i s (by simpa using e)
      rw [Nat.add_right_comm] at this
      exact this
  | .lst ds :: r, n, h, i, s, e => by
    simp only [okArgs, Bool.and_eq_true, decide_eq_true_eq] at h
    cases i with
    | zero => exact .inr h.1
    | succ i =>
      have := okArgs_get h.2 i s (by simpa using e)
      rw [Nat.add_right_comm] at this
      exact this
  | .dct _ _ :: r, n, h, i, s, e => by
    simp only [okArgs, Bool.and_eq_true, decide_eq_true_eq] at h
    cases i with
    | zero => exact .inr h.1
    | succ i =>
      have := okArgs_get h.2 i s (by simpa using e)
      rw [Nat.add_right_comm] at this
      exact this
  | .non :: r, n, h, _, _, _ => by simp [okArgs] at h

section
variable {K : PySem.W.Frag} {H J H' J' : Hp} {sg : St} {r : Ro} {fp fp' : Nat → List Addr}
theorem Wf.pad (w : Wf K H J sg r fp) (n : Nat) : Wf K H J (sg ++ List.replicate n none) (r ++ List.replicate n .non) fp where
  same := w.same
  len := by rw [List.length_append, List.length_append, List.length_replicate, List.length_replicate, w.len]
  rep := fun i s e ne => by
    by_cases hi : i < r.length
    · rw [List.getElem?_append_left hi] at e
      rw [List.getElem?_append_left (by rw [w.len]; exact hi)]
      exact w.rep i s e ne
    · rw [List.getElem?_append_right (Nat.le_of_not_lt hi), List.getElem?_replicate] at e
      split at e
      · cases e; exact absurd rfl ne
      · cases e
  emp := fun i e => by
    by_cases hi : i < r.length
    · rw [List.getElem?_append_left hi] at e
      exact w.emp i e
    · exact w.emp i (.inl (List.getElem?_eq_none (Nat.le_of_not_lt hi)))
  dis := w.dis
  jn := w.jn
/-- what a def's arguments are at its end -/
theorem outs_ok {muts : List Nat} {vs : List V} {args : Ro} {n : Nat} {sg' : St} {r' : Ro} {ws : List Nat} {F F' : Addr → Prop} (w : Wf K H J (vs.map some) args fp) (hok : okArgs muts 0 args = true) (w' : Wf K H' J' sg' r' fp')
    (ag : Agree ws (vs.map some ++ List.replicate n none) sg') (hm : ∀ i ∈ muts, i ∉ ws) (t : Step F H J F' H' J') : ∃ fpO, Wf K H' J' (vs.map some) (outsOf muts args r') fpO ∧ ∀ b, Own fpO b → Own fp' b := by
  have hl : vs.length = args.length := by have := w.len; rwa [List.length_map] at this
  have get : ∀ i, i < args.length → (outsOf muts args r')[i]? = some (if decide (i ∈ muts) = true then r'.getD i .non else args.getD i .non) := fun i hi => by
    simp [outsOf, hi]
  have getN : ∀ i, ¬ i < args.length → (outsOf muts args r')[i]? = none := fun i hi => by
    simp [outsOf]; omega
  have hsg : ∀ i, i ∈ muts → i < args.length → sg'[i]? = (vs.map some)[i]? := fun i h1 h2 => by
    rw [ag.2 i (hm i h1), List.getElem?_append_left (by rw [List.length_map, hl]; exact h2)]
  refine ⟨fun i => if i ∈ muts ∧ i < args.length then fp' i else [], ⟨w'.same, ?_, fun i s e ne => ?_, fun i e => ?_, fun i j b h1 h2 => ?_, fun i b h1 => ?_⟩, fun b ⟨i, h1⟩ => ?_⟩
  · simp [outsOf, hl]
  · by_cases hi : i < args.length
    · rw [get i hi] at e
      by_cases hmi : i ∈ muts
      · simp only [hmi, decide_true, if_true] at e
        rw [if_pos ⟨hmi, hi⟩]
        have hr' : r'[i]? = some s := by
          cases q : r'[i]? with
          | none => rw [List.getD_eq_getElem?_getD, q] at e; cases e; exact absurd rfl ne
          | some z => rw [List.getD_eq_getElem?_getD, q] at e; exact e
        obtain ⟨v, h1, h2⟩ := w'.rep i s hr' ne
        exact ⟨v, by rw [← hsg i hmi hi]; exact h1, h2⟩
      · simp only [hmi, decide_false, Bool.false_eq_true, if_false] at e
        rw [if_neg fun z => hmi z.1]
        have ha : args[i]? = some s := by
          rw [List.getD_eq_getElem?_getD, List.getElem?_eq_getElem hi] at e
          rw [List.getElem?_eq_getElem hi]
          exact e
        obtain ⟨v, h1, h2⟩ := w.rep i s ha ne
        refine ⟨v, h1, ?_⟩
        rcases okArgs_get hok i s ha with ⟨d, rfl⟩ | z
        · exact ⟨rfl, shMono t.js h2.2⟩
        · rw [Nat.zero_add] at z; exact absurd z hmi
    · rw [getN i hi] at e; cases e
  · by_cases hi : i < args.length
    · rw [get i hi] at e
      by_cases hmi : i ∈ muts
      · simp only [hmi, decide_true, if_true] at e
        rw [if_pos ⟨hmi, hi⟩]
        refine w'.emp i ?_
        cases q : r'[i]? with
        | none => exact .inl rfl
        | some z =>
          rw [List.getD_eq_getElem?_getD, q] at e
          simp at e
          exact .inr (by rw [e])
      · rw [if_neg fun z => hmi z.1]
    · rw [if_neg fun z => hi z.2]
  · (try simp only at h1 h2)
    split at h1
    · split at h2
      · exact w'.dis i j b h1 h2
      · cases h2
    · cases h1
  · (try simp only at h1)
    split at h1
    · exact w'.jn i b h1
    · cases h1
  · simp only at h1
    split at h1
    · exact ⟨i, h1⟩
    · cases h1
end

section
variable {P : Prg} {pr : Program} {w : World} {K : PySem.W.Frag} {mg : Str → Option Value} {base : Heap} {N ps : List Str} {k fu : Nat} {Phi : Nat → Ro → FR}
/-- a def of the text keeps what the evaluator says of it -/
theorem fn_sound {x qual : Str} {st : Stmt} {f : Addr} {fd : FuncData} {F : Fn} (FF : Fun K x qual st f fd) (S : FnScope N ps (defScope st)) (hok : okSs P.tx N (defScope st) (fun _ => true) F.body (defBody st) = true) (hnp : F.np = ps.length) (hnn : F.nn = N.length)
    (hm : ∀ i ∈ F.muts, i ∉ asgds F.body) (blt : ∀ x ∈ bnames, mg x = none)
    (fns : ∀ f x, P.tx.names[f]? = some x → ∃ a fd ps, FnG pr w K mg base (L2.CX pr w) (k + 2) a fd ps (spF K (Phi f)) ∧ mg x = some (.ref a) ∧ PySem.W.keepIn K (.ref a) = true ∧ Binds K fd ps [])
    (csts : ∀ x d, P.tx.consts.lookup x = some d → ∃ u, mg x = some u ∧ match d with | .int j => ∃ t, u = .int j t | .str j => ∃ t, u = .str j t | _ => True) (ers : ErrsOk K mg P.tx) :
    FnG pr w K mg base (L2.CX pr w) (k + 1 + 2) f fd ps (spF K (runF fu Phi F)) := by
  refine Fun.okG (k := k + 2) FF S (fun vs H Q E h => ?_) (fun cdv A outer s H vs Q E gd hr h => ?_)
  · obtain ⟨J, args, fp, wf, h⟩ := h
    have hl := wf.len
    rw [List.length_map] at hl
    by_cases hc : (decide (args.length = F.np) && okArgs F.muts 0 args) = true
    · simp only [Bool.and_eq_true, decide_eq_true_eq] at hc
      rw [hl, hc.1, hnp]
    · have e : runF fu Phi F args = .bad := by unfold runF; rw [if_neg hc]
      rw [e] at h
      exact h.elim
  · obtain ⟨J, args, fp, wf, h⟩ := h
    have hl := wf.len
    rw [List.length_map] at hl
    by_cases hc : (decide (args.length = F.np) && okArgs F.muts 0 args) = true
    · have er : runF fu Phi F args = (match exs fu Phi F.body (args ++ List.replicate (F.nn - F.np) .non) with
        | .ok (.ret s) r => .ret s (outsOf F.muts args r)
        | .ok .nx r => .ret (.sh .none) (outsOf F.muts args r)
        | .ex c fs r => .ex c fs (outsOf F.muts args r)
        | .bad => .bad) := by unfold runF; rw [if_pos hc] <;> rfl
      rw [er] at h
      simp only [Bool.and_eq_true, decide_eq_true_eq] at hc
      obtain ⟨hc1, hc2⟩ := hc
      let X : Cx := cxOf (L2.CX pr w) pr w K mg base N qual (defScope st) f cdv A outer s H E
      have g : Good P N k Phi X (defScope st) (fun _ => true) := ⟨rfl, S.nd, rfl, S.kind, rfl, rfl, hr, gd, blt, fns, csts, ers⟩
      have tk : Takes X (fun cls d _ H => E cls d H) := takes_of rfl rfl rfl rfl
      have hp : PassesOwn (model X.prog X.w) X.A X.env X.xe := passes_of rfl
      refine ⟨_, soundSs (fu := fu) F.body g ⟨rfl, rfl, rfl⟩ tk hp hok, ?_⟩
      have hrep : F.nn - F.np = N.length - vs.length := by rw [hnn, hl, hc1]
      refine ⟨J, args ++ List.replicate (F.nn - F.np) .non, fp, by rw [hrep]; exact wf.pad _, ?_⟩
      cases e : exs fu Phi F.body (args ++ List.replicate (F.nn - F.np) .non) with
      | bad => rw [e] at h; exact h
      | ex c fs r' =>
        rw [e] at h
        intro sg' H' J' fp' cls d w' ag q t
        obtain ⟨fpO, wO, oO⟩ := outs_ok wf hc2 w' ag hm t
        exact h H' J' fpO cls d wO q (t.weak oO)
      | ok fl r' =>
        rw [e] at h
        cases fl with
        | nx =>
          intro sg' H' J' fp' w' ag t
          obtain ⟨fpO, wO, oO⟩ := outs_ok wf hc2 w' ag hm t
          exact h .non H' J' fpO [] wO ⟨rfl, .non⟩ (fun b z => nomatch z) (nil_step (t.weak oO))
        | ret z =>
          intro v sg' H' J' fp' g' w' ag q n t
          obtain ⟨fpO, wO, oO⟩ := outs_ok wf hc2 w' ag hm t
          exact h v H' J' fpO g' wO q (fun b y => ⟨(n b y).1, fun z => (n b y).2 (oO b z)⟩) (t.weak fun b y => y.imp (oO b) id)
    · have e : runF fu Phi F args = .bad := by unfold runF; rw [if_neg hc]
      rw [e] at h
      exact h.elim

/-- what the program's top holds of a def -/
def FnAt (P : Prg) (K : PySem.W.Frag) (mg : Str → Option Value) (F : Fn) (x : Str) : Prop :=
  ∃ (qual : Str) (st : Stmt) (f : Addr) (fd : FuncData) (ps N : List Str), Fun K x qual st f fd ∧ FnScope N ps (defScope st) ∧ okSs P.tx N (defScope st) (fun _ => true) F.body (defBody st) = true ∧ F.np = ps.length ∧ F.nn = N.length ∧
    (F.muts.all fun i => decide (i ∉ asgds F.body)) = true ∧ mg x = some (.ref f) ∧ Binds K fd ps []
theorem table_sound {T : List Fn} (blt : ∀ x ∈ bnames, mg x = none)
    (csts : ∀ x d, P.tx.consts.lookup x = some d → ∃ u, mg x = some u ∧ match d with | .int j => ∃ t, u = .int j t | .str j => ∃ t, u = .str j t | _ => True)
    (ers : ErrsOk K mg P.tx) (tab : ∀ (i : Nat) (x : Str), P.tx.names[i]? = some x → ∃ F, T[i]? = some F ∧ FnAt P K mg F x) :
    ∀ (k i : Nat) (x : Str), P.tx.names[i]? = some x → ∃ a fd ps, FnG pr w K mg base (L2.CX pr w) (k + 2) a fd ps (spF K (run fu T k i)) ∧ mg x = some (.ref a) ∧ PySem.W.keepIn K (.ref a) = true ∧ Binds K fd ps []
  | 0, i, x, h => by
    obtain ⟨F, hF, qual, st, f, fd, ps, N, h1, _, _, _, _, _, h7, h8⟩ := tab i x h
    refine ⟨f, fd, ps, ⟨fun vs H Q E ⟨_, _, _, _, z⟩ => z.elim, fun A outer s H args us vs Q E _ _ _ _ _ ⟨_, _, _, _, z⟩ => z.elim⟩, h7, h1.kp, h8⟩
  | k + 1, i, x, h => by
    obtain ⟨F, hF, qual, st, f, fd, ps, N, h1, h2, h3, h4, h5, h6, h7, h8⟩ := tab i x h
    have ih := table_sound (T := T) blt csts ers tab k
    have := fn_sound (fu := fu) (pr := pr) (w := w) (base := base) (Phi := run fu T k) h1 h2 h3 h4 h5 (fun i q => of_decide_eq_true (List.all_eq_true.mp h6 i q)) blt ih csts ers
    refine ⟨f, fd, ps, ?_, h7, h1.kp, h8⟩
    have e : run fu T (k + 1) i = runF fu (run fu T k) F := by
      funext args
      simp only [run, hF]
    rw [e]
    exact this
end
theorem law_start {P : Prg} {K : PySem.W.Frag} {Ph : Ro → FR} {H : Hp} {a : Addr} {ns : List Int} (hS : SqL K H a (ns.map V.int)) (h : ∃ outs, Ph [.sh (scrD ns)] = .ret (.sh (.bool true)) outs) :
    spF K Ph [.ref a] H (fun v _ => v = .bl true) fun _ _ _ => False := by
  obtain ⟨outs, e⟩ := h
  refine ⟨H, [.sh (scrD ns)], fpC [] fun _ => [], (Wf.nil (Same.refl H)).cons ⟨rfl, .scr hS⟩ (fun b q => nomatch q), ?_⟩
  rw [e]
  intro v H' J' fp' g _ q _ _
  obtain ⟨_, q⟩ := q
  cases q
  rfl
theorem cx_none {pr : Program} {w : World} {H : Hp} {s : Shared} {e : Value} {s' : Shared} (h : L2.CX pr w [] H s (fun _ _ _ => False) e s') : False := by
  obtain ⟨_, _, _, _, _, _, _, _, _, _, _, _, z⟩ := h
  exact z
end Ev
end

section
set_option maxHeartbeats 8000000
set_option Elab.async false
set_option linter.all false
set_option maxRecDepth 100000
/-! What an evaluation leads to, from the end: the plain side. -/
namespace Ev
open PySem L2
abbrev XP := Nat → List (PyData × PyData) → Ro → Prop
abbrev noE : XP := fun _ _ _ => False
structure Wp {A : Type} (x : R A) (Q : A → Ro → Prop) (E : XP) : Prop where
  out : match x with
    | .ok a r => Q a r
    | .ex c fs r => E c fs r
    | .bad => False
structure WpF (x : FR) (Q : Slot → Ro → Prop) (E : XP) : Prop where
  out : match x with
    | .ret s o => Q s o
    | .ex c fs o => E c fs o
    | .bad => False
/-- an operation's value -/
def WpP (x : Option Slot) (r : Ro) (Q : Slot → Ro → Prop) : Prop := match x with
  | some s => Q s r
  | none => False
def WpO {A : Type} (x : Option A) (Q : A → Prop) : Prop := match x with
  | some a => Q a
  | none => False
section
variable {A B : Type} {Q : A → Ro → Prop} {E : XP}
theorem wp_ok {a : A} {r : Ro} : Wp (.ok a r) Q E ↔ Q a r := ⟨fun h => h.out, fun h => ⟨h⟩⟩
theorem wp_ex {c : Nat} {fs : List (PyData × PyData)} {r : Ro} : Wp (.ex c fs r) Q E ↔ E c fs r := ⟨fun h => h.out, fun h => ⟨h⟩⟩
theorem wp_bad : Wp (.bad : R A) Q E ↔ False := ⟨fun h => h.out, fun h => h.elim⟩
theorem wpf_ret {s : Slot} {o : Ro} {Q : Slot → Ro → Prop} : WpF (.ret s o) Q E ↔ Q s o := ⟨fun h => h.out, fun h => ⟨h⟩⟩
theorem wpf_ex {c : Nat} {fs : List (PyData × PyData)} {r : Ro} {Q : Slot → Ro → Prop} : WpF (.ex c fs r) Q E ↔ E c fs r := ⟨fun h => h.out, fun h => ⟨h⟩⟩
theorem wpf_bad {Q : Slot → Ro → Prop} : WpF .bad Q E ↔ False := ⟨fun h => h.out, fun h => h.elim⟩
theorem wpo_some {a : A} {P : A → Prop} : WpO (some a) P ↔ P a := Iff.rfl
theorem wpo_none {P : A → Prop} : WpO (none : Option A) P ↔ False := Iff.rfl
theorem wpp_some {s : Slot} {r : Ro} {P : Slot → Ro → Prop} : WpP (some s) r P ↔ P s r := Iff.rfl
theorem wpp_none {r : Ro} {P : Slot → Ro → Prop} : WpP none r P ↔ False := Iff.rfl
theorem Wp.bind {x : R A} {f : A → Ro → R B} {Q : B → Ro → Prop} : Wp (x.bind f) Q E ↔ Wp x (fun a r => Wp (f a r) Q E) E := by
  cases x <;> simp only [R.bind, wp_ok, wp_ex, wp_bad]
theorem Wp.imp {x : R A} {Q' : A → Ro → Prop} {E' : XP} (h : Wp x Q E) (i : ∀ a r, Q a r → Q' a r) (j : ∀ c fs r, E c fs r → E' c fs r) : Wp x Q' E' := by
  cases x with
  | ok a r => exact ⟨i a r h.out⟩
  | ex c fs r => exact ⟨j c fs r h.out⟩
  | bad => exact h.out.elim
theorem WpF.imp {x : FR} {Q Q' : Slot → Ro → Prop} {E E' : XP} (h : WpF x Q E) (i : ∀ a r, Q a r → Q' a r) (j : ∀ c fs r, E c fs r → E' c fs r) : WpF x Q' E' := by
  cases x with
  | ret a r => exact ⟨i a r h.out⟩
  | ex c fs r => exact ⟨j c fs r h.out⟩
  | bad => exact h.out.elim
/-- .. where nothing is raised -/
theorem WpF.to {x : FR} {Q Q' : Slot → Ro → Prop} {E' : XP} (h : WpF x Q noE) (i : ∀ a r, Q a r → Q' a r) : WpF x Q' E' := h.imp i fun _ _ _ z => z.elim
theorem Wp.to {x : R A} {Q' : A → Ro → Prop} {E' : XP} (h : Wp x Q noE) (i : ∀ a r, Q a r → Q' a r) : Wp x Q' E' := h.imp i fun _ _ _ z => z.elim
theorem WpF.ret {x : FR} {Q : Slot → Ro → Prop} (h : WpF x Q noE) : ∃ s o, x = .ret s o ∧ Q s o := by
  cases x with
  | ret a r => exact ⟨a, r, rfl, h.out⟩
  | ex c fs r => exact h.out.elim
  | bad => exact h.out.elim
end

/-! what follows -/
/-- a truth is wanted -/
def kTr (Q : Bool → Ro → Prop) (s : Slot) (r : Ro) : Prop := match s with
  | .sh (.bool b) => Q b r
  | _ => False
def kNot (Q : Slot → Ro → Prop) (b : Bool) (r : Ro) : Prop := Q (.sh (.bool (!b))) r
section
variable (fu : Nat) (Phi : Nat → Ro → FR)
def kAnd (c : CE) (Q : Slot → Ro → Prop) (E : XP) (b : Bool) (r : Ro) : Prop := (b = true → Wp (ev Phi c r) Q E) ∧ (b = false → Q (.sh (.bool false)) r)
def kOr (c : CE) (Q : Slot → Ro → Prop) (E : XP) (b : Bool) (r : Ro) : Prop := (b = true → Q (.sh (.bool true)) r) ∧ (b = false → Wp (ev Phi c r) Q E)
def kDa (es : CEs) (Q : List Od → Ro → Prop) (E : XP) (s : Slot) (r : Ro) : Prop := WpO (toSh s) fun d => Wp (rds Phi es r) (fun ds r => Q (.da d :: ds) r) E
def kPl (i : Nat) (Q : List Od → Ro → Prop) (ds : List Od) (r : Ro) : Prop := Q (.pl i :: ds) r
def kDb (d : PyData) (Q : List Od → Ro → Prop) (ds : List Od) (r : Ro) : Prop := Q (.da d :: ds) r
def kTm (s : Slot) (Q : List Od → Ro → Prop) (ds : List Od) (r : Ro) : Prop := Q (.tm s :: ds) r
def kDs (es : CEs) (Q : List Od → Ro → Prop) (E : XP) (s : Slot) (r : Ro) : Prop := WpO (toSh s) fun d => Wp (rds Phi es r) (kDb d Q) E
def kDA (es : CEs) (Q : List Od → Ro → Prop) (E : XP) (s : Slot) (r : Ro) : Prop := WpO (toSh s) fun d => Wp (evA Phi es r) (kDb d Q) E
def kTA (es : CEs) (Q : List Od → Ro → Prop) (E : XP) (s : Slot) (r : Ro) : Prop := Wp (evA Phi es r) (kTm s Q) E
def kCons (d : PyData) (Q : List PyData → Ro → Prop) (ds : List PyData) (r : Ro) : Prop := Q (d :: ds) r
def kEs (es : CEs) (Q : List PyData → Ro → Prop) (E : XP) (s : Slot) (r : Ro) : Prop := WpO (toSh s) fun d => Wp (evs Phi es r) (kCons d Q) E
def kOp (o : Op) (Q : Slot → Ro → Prop) (x : List Od) (r : Ro) : Prop := WpO (rdOs r x) fun ds => WpP (prim o ds) r Q
def kTup (Q : Slot → Ro → Prop) (ds : List PyData) (r : Ro) : Prop := Q (.sh (.tuple ds)) r
def kLst (Q : Slot → Ro → Prop) (ds : List PyData) (r : Ro) : Prop := Q (.lst ds) r
def kSh (Q : PyData → Ro → Prop) (s : Slot) (r : Ro) : Prop := WpO (toSh s) fun d => Q d r
def kBack (ls : List (Option Nat)) (r : Ro) (Q : Slot → Ro → Prop) (s : Slot) (o : Ro) : Prop := Q s (putBack ls o r)
def kBackE (ls : List (Option Nat)) (r : Ro) (E : XP) (c : Nat) (fs : List (PyData × PyData)) (o : Ro) : Prop := E c fs (putBack ls o r)
def kCall (f : Nat) (Q : Slot → Ro → Prop) (E : XP) (x : List Od) (r : Ro) : Prop := WpO (mvs x r) fun p => WpF (Phi f p.1) (kBack p.2.1 p.2.2 Q) (kBackE p.2.1 p.2.2 E)
def kChain2 (p : Op) (y : PyData) (Q : Slot → Ro → Prop) (z : PyData) (r : Ro) : Prop := WpP (prim p [y, z]) r Q
def kChainB (p : Op) (c : CE) (y : PyData) (Q : Slot → Ro → Prop) (E : XP) (b : Bool) (r : Ro) : Prop := (b = true → Wp (ev Phi c r) (kSh (kChain2 p y Q)) E) ∧ (b = false → Q (.sh (.bool false)) r)
def kChain1 (o p : Op) (c : CE) (x : PyData) (Q : Slot → Ro → Prop) (E : XP) (y : PyData) (r : Ro) : Prop := WpP (prim o [x, y]) r (kTr (kChainB Phi p c y Q E))
def kChain0 (o p : Op) (b c : CE) (Q : Slot → Ro → Prop) (E : XP) (x : PyData) (r : Ro) : Prop := Wp (ev Phi b r) (kSh (kChain1 Phi o p c x Q E)) E
def lcStep (elt : CE) (tg : CT) (cond : CEs) (ws : List Nat) (d : PyData) (q : Ro) : R (Option PyData) := match asg tg d (wipeR q ws) with
  | some q1 => (evC Phi cond q1).bind fun b q2 => if b = true then (ev Phi elt q2).sh.bind fun y q3 => .ok (some y) (backR q q3 ws) else .ok none (backR q q2 ws)
  | none => .bad
def kLc2 (ls : List Lk) (Q : Slot → Ro → Prop) (ys : List PyData) (r : Ro) : Prop := Q (.lst ys) (unlks ls r)
def kLc (elt : CE) (tg : CT) (cond : CEs) (ws : List Nat) (Q : Slot → Ro → Prop) (E : XP) (x : List PyData × List Lk) (r : Ro) : Prop := Wp (comp (lcStep Phi elt tg cond ws) x.1 [] r) (kLc2 x.2 Q) E
def kSeqI (Q : List PyData × List Lk → Ro → Prop) (E : XP) (d : PyData) (r : Ro) : Prop := Wp (seqI d [] r) Q E
def kPrs (z : Bool) (Q : List PyData × List Lk → Ro → Prop) (x : List Od) (r : Ro) : Prop := WpO (lks x r) fun p => WpO (prsI z p.1) fun l => Q (l, p.2.1) p.2.2
def rgA (n : Int) : Prop := (in62 n && small n.toNat) = true
def rgB (m n : Int) : Prop := (in62 m && in62 n && small (n - m).toNat) = true
def kRng1 (Q : List PyData × List Lk → Ro → Prop) (d : PyData) (r : Ro) : Prop := match d with
  | .int n => rgA n ∧ Q (rngL 0 n.toNat, []) r
  | _ => False
def kRng2b (m : PyData) (Q : List PyData × List Lk → Ro → Prop) (d : PyData) (r : Ro) : Prop := match m, d with
  | .int m, .int n => rgB m n ∧ Q (rngL m (n - m).toNat, []) r
  | _, _ => False
def kRng2 (b : CE) (Q : List PyData × List Lk → Ro → Prop) (E : XP) (d : PyData) (r : Ro) : Prop := Wp (ev Phi b r) (kSh (kRng2b d Q)) E
def kSl3 (d : PyData) (i : Int) (Q : Slot → Ro → Prop) (y : PyData) (r : Ro) : Prop := match y with
  | .int j => WpP (cutP d (some i) (some j)) r Q
  | _ => False
def kSl2 (hi : CE) (d : PyData) (Q : Slot → Ro → Prop) (E : XP) (x : PyData) (r : Ro) : Prop := match x with
  | .int i => Wp (ev Phi hi r) (kSh (kSl3 d i Q)) E
  | _ => False
def kSl1 (lo hi : CE) (Q : Slot → Ro → Prop) (E : XP) (d : PyData) (r : Ro) : Prop := Wp (ev Phi lo r) (kSh (kSl2 Phi hi d Q E)) E
def kXn (c : Nat) (f : String) (Q : Slot → Ro → Prop) (d : PyData) (r : Ro) : Prop := Q (.sh (excD c (if f = "" then [] else [(.str (Str.ofString f), d)]))) r
def kPop (i : Nat) (Q : Slot → Ro → Prop) (d : PyData) (r : Ro) : Prop := match d, r[i]? with
  | .int n, some (.lst ds) => WpO (ixN ds.length n) fun j => WpO ds[j]? fun y => Q (.sh y) (r.set i (.lst (ds.eraseIdx j)))
  | _, _ => False
end
def isLs (r : Ro) (i : Nat) : Bool := match r[i]? with
  | some (.lst _) => true
  | _ => false
section
variable {fu : Nat} {Phi : Nat → Ro → FR} {Q : Slot → Ro → Prop} {E : XP} {r : Ro}
theorem Wp.sh {x : R Slot} {Q : PyData → Ro → Prop} : Wp x.sh Q E ↔ Wp x (kSh Q) E := by
  cases x with
  | ok s r =>
    simp only [R.sh, R.bind, wp_ok, kSh]
    cases toSh s <;> first | rfl | (simp only [wp_ok, wp_ex, wp_bad, wpf_ret, wpf_ex, wpf_bad, WpO, WpP, R.bind, R.sh, R.truth]; done) | (simp only [wp_ok, wp_ex, wp_bad, wpf_ret, wpf_ex, wpf_bad, WpO, WpP, R.bind, R.sh, R.truth]; rfl) | (simp [wp_ok, wp_ex, wp_bad, wpf_ret, wpf_ex, wpf_bad, WpO, WpP, R.bind, R.sh, R.truth, toSh]; done)
  | ex c fs r => first | rfl | (simp only [wp_ok, wp_ex, wp_bad, wpf_ret, wpf_ex, wpf_bad, WpO, WpP, R.bind, R.sh, R.truth]; done) | (simp only [wp_ok, wp_ex, wp_bad, wpf_ret, wpf_ex, wpf_bad, WpO, WpP, R.bind, R.sh, R.truth]; rfl) | (simp [wp_ok, wp_ex, wp_bad, wpf_ret, wpf_ex, wpf_bad, WpO, WpP, R.bind, R.sh, R.truth, toSh]; done)
  | bad => first | rfl | (simp only [wp_ok, wp_ex, wp_bad, wpf_ret, wpf_ex, wpf_bad, WpO, WpP, R.bind, R.sh, R.truth]; done) | (simp only [wp_ok, wp_ex, wp_bad, wpf_ret, wpf_ex, wpf_bad, WpO, WpP, R.bind, R.sh, R.truth]; rfl) | (simp [wp_ok, wp_ex, wp_bad, wpf_ret, wpf_ex, wpf_bad, WpO, WpP, R.bind, R.sh, R.truth, toSh]; done)
theorem Wp.truth {x : R Slot} {Q : Bool → Ro → Prop} : Wp x.truth Q E ↔ Wp x (kTr Q) E := by
  cases x with
  | ok s r =>
    simp only [R.truth, R.bind, wp_ok, kTr]
    cases s with
    | sh d => cases d <;> first | rfl | (simp only [wp_ok, wp_ex, wp_bad, wpf_ret, wpf_ex, wpf_bad, WpO, WpP, R.bind, R.sh, R.truth]; done) | (simp only [wp_ok, wp_ex, wp_bad, wpf_ret, wpf_ex, wpf_bad, WpO, WpP, R.bind, R.sh, R.truth]; rfl) | (simp [wp_ok, wp_ex, wp_bad, wpf_ret, wpf_ex, wpf_bad, WpO, WpP, R.bind, R.sh, R.truth, toSh]; done)
    | _ => first | rfl | (simp only [wp_ok, wp_ex, wp_bad, wpf_ret, wpf_ex, wpf_bad, WpO, WpP, R.bind, R.sh, R.truth]; done) | (simp only [wp_ok, wp_ex, wp_bad, wpf_ret, wpf_ex, wpf_bad, WpO, WpP, R.bind, R.sh, R.truth]; rfl) | (simp [wp_ok, wp_ex, wp_bad, wpf_ret, wpf_ex, wpf_bad, WpO, WpP, R.bind, R.sh, R.truth, toSh]; done)
  | ex c fs r => first | rfl | (simp only [wp_ok, wp_ex, wp_bad, wpf_ret, wpf_ex, wpf_bad, WpO, WpP, R.bind, R.sh, R.truth]; done) | (simp only [wp_ok, wp_ex, wp_bad, wpf_ret, wpf_ex, wpf_bad, WpO, WpP, R.bind, R.sh, R.truth]; rfl) | (simp [wp_ok, wp_ex, wp_bad, wpf_ret, wpf_ex, wpf_bad, WpO, WpP, R.bind, R.sh, R.truth, toSh]; done)
  | bad => first | rfl | (simp only [wp_ok, wp_ex, wp_bad, wpf_ret, wpf_ex, wpf_bad, WpO, WpP, R.bind, R.sh, R.truth]; done) | (simp only [wp_ok, wp_ex, wp_bad, wpf_ret, wpf_ex, wpf_bad, WpO, WpP, R.bind, R.sh, R.truth]; rfl) | (simp [wp_ok, wp_ex, wp_bad, wpf_ret, wpf_ex, wpf_bad, WpO, WpP, R.bind, R.sh, R.truth, toSh]; done)
theorem wp_var {i : Nat} : Wp (ev Phi (.var i) r) Q E ↔ Wp (getV i r) Q E := by simp only [ev]
theorem wp_shr {i : Nat} : Wp (ev Phi (.shr i) r) Q E ↔ Wp (getV i r) Q E := by simp only [ev]
theorem wp_cst {d : PyData} : Wp (ev Phi (.cst d) r) Q E ↔ Q (.sh d) r := by simp only [ev, wp_ok, wp_ex, wp_bad]
theorem wp_glob {x : Str} {d : PyData} : Wp (ev Phi (.glob x d) r) Q E ↔ Q (.sh d) r := by simp only [ev, wp_ok, wp_ex, wp_bad]
theorem wp_xnew {c : Nat} {f : String} {a : CE} : Wp (ev Phi (.xnew c f a) r) Q E ↔ Wp (ev Phi a r) (kSh (kXn c f Q)) E := by
  simp only [ev, Wp.bind, Wp.sh]
  cases ev Phi a r with
  | ok s r1 =>
    simp only [wp_ok, kSh]
    cases toSh s with
    | none => rfl
    | some d => simp only [WpO, wp_ok, kXn]
  | ex c fs r1 => simp only [wp_ex]
  | bad => simp only [wp_bad]
theorem wp_sl2 {a lo hi : CE} : Wp (ev Phi (.sl2 a lo hi) r) Q E ↔ Wp (ev Phi a r) (kSh (kSl1 Phi lo hi Q E)) E := by
  simp only [ev, Wp.bind, Wp.sh]
  cases ev Phi a r with
  | ok s r1 =>
    simp only [wp_ok, kSh]
    cases toSh s with
    | none => rfl
    | some d =>
      simp only [WpO, kSl1]
      cases ev Phi lo r1 with
      | ok s2 r2 =>
        simp only [wp_ok, kSh]
        cases toSh s2 with
        | none => rfl
        | some x =>
          simp only [WpO, kSl2]
          cases x with
          | int i =>
            simp only [Wp.bind, Wp.sh]
            cases ev Phi hi r2 with
            | ok s3 r3 =>
              simp only [wp_ok, kSh]
              cases toSh s3 with
              | none => rfl
              | some y =>
                simp only [WpO, kSl3]
                cases y with
                | int j =>
                  simp only
                  cases cutP d (some i) (some j) with
                  | none => simp only [wp_bad, WpP]
                  | some q => simp only [wp_ok, WpP]
                | _ => simp only [wp_bad]
            | ex c fs r3 => simp only [wp_ex]
            | bad => simp only [wp_bad]
          | _ => simp only [wp_bad]
      | ex c fs r2 => simp only [wp_ex]
      | bad => simp only [wp_bad]
  | ex c fs r1 => simp only [wp_ex]
  | bad => simp only [wp_bad]
theorem wp_dnew {t : Bool} : Wp (ev Phi (.dnew t) r) Q E ↔ Q (.dct t []) r := by simp only [ev, wp_ok, wp_ex, wp_bad]
theorem kOp_of {o : Op} {x : R (List Od)} : Wp (x.bind fun x r1 => match rdOs r1 x with
    | some ds => (match prim o ds with
      | some s => .ok s r1
      | none => .bad)
    | none => .bad) Q E ↔ Wp x (kOp o Q) E := by
  rw [Wp.bind]
  cases x with
  | ok x r =>
    simp only [wp_ok, kOp]
    cases rdOs r x with
    | none => first | rfl | (simp only [wp_ok, wp_ex, wp_bad, wpf_ret, wpf_ex, wpf_bad, WpO, WpP, R.bind, R.sh, R.truth]; done) | (simp only [wp_ok, wp_ex, wp_bad, wpf_ret, wpf_ex, wpf_bad, WpO, WpP, R.bind, R.sh, R.truth]; rfl) | (simp [wp_ok, wp_ex, wp_bad, wpf_ret, wpf_ex, wpf_bad, WpO, WpP, R.bind, R.sh, R.truth, toSh]; done)
    | some ds =>
      simp only [WpO]
      cases prim o ds <;> first | rfl | (simp only [wp_ok, wp_ex, wp_bad, wpf_ret, wpf_ex, wpf_bad, WpO, WpP, R.bind, R.sh, R.truth]; done) | (simp only [wp_ok, wp_ex, wp_bad, wpf_ret, wpf_ex, wpf_bad, WpO, WpP, R.bind, R.sh, R.truth]; rfl) | (simp [wp_ok, wp_ex, wp_bad, wpf_ret, wpf_ex, wpf_bad, WpO, WpP, R.bind, R.sh, R.truth, toSh]; done)
  | _ => first | rfl | (simp only [wp_ok, wp_ex, wp_bad, wpf_ret, wpf_ex, wpf_bad, WpO, WpP, R.bind, R.sh, R.truth]; done) | (simp only [wp_ok, wp_ex, wp_bad, wpf_ret, wpf_ex, wpf_bad, WpO, WpP, R.bind, R.sh, R.truth]; rfl) | (simp [wp_ok, wp_ex, wp_bad, wpf_ret, wpf_ex, wpf_bad, WpO, WpP, R.bind, R.sh, R.truth, toSh]; done)
theorem wp_op {o : Op} {es : CEs} : Wp (ev Phi (.op o es) r) Q E ↔ Wp (rds Phi es r) (kOp o Q) E := by simp only [ev]; exact kOp_of
theorem wp_xop {o : Op} {es : CEs} : Wp (ev Phi (.xop o es) r) Q E ↔ Wp (rds Phi es r) (kOp o Q) E := by simp only [ev]; exact kOp_of
theorem wp_meth {o : Op} {i : Nat} {es : CEs} : Wp (ev Phi (.meth o i es) r) Q E ↔ mTy o r i = true ∧ Wp (rds Phi es r) (kPl i (kOp o Q)) E := by
  simp only [ev]
  by_cases h : mTy o r i = true
  · rw [if_pos h, Wp.bind]
    simp only [h, true_and]
    cases rds Phi es r with
    | ok x r =>
      simp only [wp_ok, kPl, kOp]
      cases rdOs r (.pl i :: x) with
      | none => first | rfl | (simp only [wp_ok, wp_ex, wp_bad, wpf_ret, wpf_ex, wpf_bad, WpO, WpP, R.bind, R.sh, R.truth]; done) | (simp only [wp_ok, wp_ex, wp_bad, wpf_ret, wpf_ex, wpf_bad, WpO, WpP, R.bind, R.sh, R.truth]; rfl) | (simp [wp_ok, wp_ex, wp_bad, wpf_ret, wpf_ex, wpf_bad, WpO, WpP, R.bind, R.sh, R.truth, toSh]; done)
      | some ds =>
        simp only [WpO]
        cases prim o ds <;> first | rfl | (simp only [wp_ok, wp_ex, wp_bad, wpf_ret, wpf_ex, wpf_bad, WpO, WpP, R.bind, R.sh, R.truth]; done) | (simp only [wp_ok, wp_ex, wp_bad, wpf_ret, wpf_ex, wpf_bad, WpO, WpP, R.bind, R.sh, R.truth]; rfl) | (simp [wp_ok, wp_ex, wp_bad, wpf_ret, wpf_ex, wpf_bad, WpO, WpP, R.bind, R.sh, R.truth, toSh]; done)
    | _ => first | rfl | (simp only [wp_ok, wp_ex, wp_bad, wpf_ret, wpf_ex, wpf_bad, WpO, WpP, R.bind, R.sh, R.truth]; done) | (simp only [wp_ok, wp_ex, wp_bad, wpf_ret, wpf_ex, wpf_bad, WpO, WpP, R.bind, R.sh, R.truth]; rfl) | (simp [wp_ok, wp_ex, wp_bad, wpf_ret, wpf_ex, wpf_bad, WpO, WpP, R.bind, R.sh, R.truth, toSh]; done)
  · rw [if_neg h]
    simp [wp_bad, h]
theorem wp_tup {es : CEs} : Wp (ev Phi (.tup es) r) Q E ↔ Wp (evs Phi es r) (kTup Q) E := by simp only [ev, Wp.bind]; (first | rfl | (simp only [wp_ok, wp_ex, wp_bad, wpf_ret, wpf_ex, wpf_bad, WpO, WpP, R.bind, R.sh, R.truth]; done) | (simp only [wp_ok, wp_ex, wp_bad, wpf_ret, wpf_ex, wpf_bad, WpO, WpP, R.bind, R.sh, R.truth]; rfl) | (simp [wp_ok, wp_ex, wp_bad, wpf_ret, wpf_ex, wpf_bad, WpO, WpP, R.bind, R.sh, R.truth, toSh]; done))
theorem wp_lst {es : CEs} : Wp (ev Phi (.lst es) r) Q E ↔ Wp (evs Phi es r) (kLst Q) E := by simp only [ev, Wp.bind]; (first | rfl | (simp only [wp_ok, wp_ex, wp_bad, wpf_ret, wpf_ex, wpf_bad, WpO, WpP, R.bind, R.sh, R.truth]; done) | (simp only [wp_ok, wp_ex, wp_bad, wpf_ret, wpf_ex, wpf_bad, WpO, WpP, R.bind, R.sh, R.truth]; rfl) | (simp [wp_ok, wp_ex, wp_bad, wpf_ret, wpf_ex, wpf_bad, WpO, WpP, R.bind, R.sh, R.truth, toSh]; done))
theorem wp_not {c : CE} : Wp (ev Phi (.not c) r) Q E ↔ Wp (ev Phi c r) (kTr (kNot Q)) E := by simp only [ev, Wp.bind, Wp.truth]; (first | rfl | (simp only [wp_ok, wp_ex, wp_bad, wpf_ret, wpf_ex, wpf_bad, WpO, WpP, R.bind, R.sh, R.truth]; done) | (simp only [wp_ok, wp_ex, wp_bad, wpf_ret, wpf_ex, wpf_bad, WpO, WpP, R.bind, R.sh, R.truth]; rfl) | (simp [wp_ok, wp_ex, wp_bad, wpf_ret, wpf_ex, wpf_bad, WpO, WpP, R.bind, R.sh, R.truth, toSh]; done))
theorem wp_and {c d : CE} : Wp (ev Phi (.and c d) r) Q E ↔ Wp (ev Phi c r) (kTr (kAnd Phi d Q E)) E := by
  simp only [ev, Wp.bind, Wp.truth]
  cases ev Phi c r with
  | ok s r1 =>
    simp only [wp_ok, kTr]
    cases s with
    | sh x => cases x with
      | bool b => cases b <;> simp [kAnd, kOr, wp_ok, wp_ex, wp_bad]
      | _ => first | rfl | (simp only [wp_ok, wp_ex, wp_bad, wpf_ret, wpf_ex, wpf_bad, WpO, WpP, R.bind, R.sh, R.truth]; done) | (simp only [wp_ok, wp_ex, wp_bad, wpf_ret, wpf_ex, wpf_bad, WpO, WpP, R.bind, R.sh, R.truth]; rfl) | (simp [wp_ok, wp_ex, wp_bad, wpf_ret, wpf_ex, wpf_bad, WpO, WpP, R.bind, R.sh, R.truth, toSh]; done)
    | _ => first | rfl | (simp only [wp_ok, wp_ex, wp_bad, wpf_ret, wpf_ex, wpf_bad, WpO, WpP, R.bind, R.sh, R.truth]; done) | (simp only [wp_ok, wp_ex, wp_bad, wpf_ret, wpf_ex, wpf_bad, WpO, WpP, R.bind, R.sh, R.truth]; rfl) | (simp [wp_ok, wp_ex, wp_bad, wpf_ret, wpf_ex, wpf_bad, WpO, WpP, R.bind, R.sh, R.truth, toSh]; done)
  | _ => first | rfl | (simp only [wp_ok, wp_ex, wp_bad, wpf_ret, wpf_ex, wpf_bad, WpO, WpP, R.bind, R.sh, R.truth]; done) | (simp only [wp_ok, wp_ex, wp_bad, wpf_ret, wpf_ex, wpf_bad, WpO, WpP, R.bind, R.sh, R.truth]; rfl) | (simp [wp_ok, wp_ex, wp_bad, wpf_ret, wpf_ex, wpf_bad, WpO, WpP, R.bind, R.sh, R.truth, toSh]; done)
theorem wp_or {c d : CE} : Wp (ev Phi (.or c d) r) Q E ↔ Wp (ev Phi c r) (kTr (kOr Phi d Q E)) E := by
  simp only [ev, Wp.bind, Wp.truth]
  cases ev Phi c r with
  | ok s r1 =>
    simp only [wp_ok, kTr]
    cases s with
    | sh x => cases x with
      | bool b => cases b <;> simp [kAnd, kOr, wp_ok, wp_ex, wp_bad]
      | _ => first | rfl | (simp only [wp_ok, wp_ex, wp_bad, wpf_ret, wpf_ex, wpf_bad, WpO, WpP, R.bind, R.sh, R.truth]; done) | (simp only [wp_ok, wp_ex, wp_bad, wpf_ret, wpf_ex, wpf_bad, WpO, WpP, R.bind, R.sh, R.truth]; rfl) | (simp [wp_ok, wp_ex, wp_bad, wpf_ret, wpf_ex, wpf_bad, WpO, WpP, R.bind, R.sh, R.truth, toSh]; done)
    | _ => first | rfl | (simp only [wp_ok, wp_ex, wp_bad, wpf_ret, wpf_ex, wpf_bad, WpO, WpP, R.bind, R.sh, R.truth]; done) | (simp only [wp_ok, wp_ex, wp_bad, wpf_ret, wpf_ex, wpf_bad, WpO, WpP, R.bind, R.sh, R.truth]; rfl) | (simp [wp_ok, wp_ex, wp_bad, wpf_ret, wpf_ex, wpf_bad, WpO, WpP, R.bind, R.sh, R.truth, toSh]; done)
  | _ => first | rfl | (simp only [wp_ok, wp_ex, wp_bad, wpf_ret, wpf_ex, wpf_bad, WpO, WpP, R.bind, R.sh, R.truth]; done) | (simp only [wp_ok, wp_ex, wp_bad, wpf_ret, wpf_ex, wpf_bad, WpO, WpP, R.bind, R.sh, R.truth]; rfl) | (simp [wp_ok, wp_ex, wp_bad, wpf_ret, wpf_ex, wpf_bad, WpO, WpP, R.bind, R.sh, R.truth, toSh]; done)
theorem wp_chain {o p : Op} {a b c : CE} : Wp (ev Phi (.chain o p a b c) r) Q E ↔ Wp (ev Phi a r) (kSh (kChain0 Phi o p b c Q E)) E := by
  simp only [ev, Wp.bind, Wp.sh]
  have e : ∀ (x : PyData) (r : Ro), kChain0 Phi o p b c Q E x r ↔ Wp (ev Phi b r) (kSh fun y r2 => Wp (match prim o [x, y] with
    | some (.sh (.bool true)) => (ev Phi c r2).sh.bind fun z r3 => (match prim p [y, z] with
      | some s => R.ok s r3
      | none => .bad)
    | some (.sh (.bool false)) => .ok (.sh (.bool false)) r2
    | _ => .bad) Q E) E := by
    intro x r
    unfold kChain0
    cases ev Phi b r with
    | ok s r1 =>
      simp only [wp_ok, kSh]
      cases toSh s with
      | none => first | rfl | (simp only [wp_ok, wp_ex, wp_bad, wpf_ret, wpf_ex, wpf_bad, WpO, WpP, R.bind, R.sh, R.truth]; done) | (simp only [wp_ok, wp_ex, wp_bad, wpf_ret, wpf_ex, wpf_bad, WpO, WpP, R.bind, R.sh, R.truth]; rfl) | (simp [wp_ok, wp_ex, wp_bad, wpf_ret, wpf_ex, wpf_bad, WpO, WpP, R.bind, R.sh, R.truth, toSh]; done)
      | some y =>
        simp only [WpO, kChain1]
        cases prim o [x, y] with
        | none => first | rfl | (simp only [wp_ok, wp_ex, wp_bad, wpf_ret, wpf_ex, wpf_bad, WpO, WpP, R.bind, R.sh, R.truth]; done) | (simp only [wp_ok, wp_ex, wp_bad, wpf_ret, wpf_ex, wpf_bad, WpO, WpP, R.bind, R.sh, R.truth]; rfl) | (simp [wp_ok, wp_ex, wp_bad, wpf_ret, wpf_ex, wpf_bad, WpO, WpP, R.bind, R.sh, R.truth, toSh]; done)
        | some t =>
          simp only [WpP, kTr]
          cases t with
          | sh z => cases z with
            | bool q => cases q with
              | false => simp [kChainB, wp_ok, wp_ex, wp_bad]
              | true =>
                simp only [kChainB, forall_const, Bool.true_eq_false, false_implies, and_true, true_implies]
                show _ ↔ Wp _ Q E
                rw [Wp.bind, Wp.sh]
                cases ev Phi c r1 with
                | ok s2 r2 =>
                  simp only [wp_ok, kSh]
                  cases toSh s2 with
                  | none => first | rfl | (simp only [wp_ok, wp_ex, wp_bad, wpf_ret, wpf_ex, wpf_bad, WpO, WpP, R.bind, R.sh, R.truth]; done) | (simp only [wp_ok, wp_ex, wp_bad, wpf_ret, wpf_ex, wpf_bad, WpO, WpP, R.bind, R.sh, R.truth]; rfl) | (simp [wp_ok, wp_ex, wp_bad, wpf_ret, wpf_ex, wpf_bad, WpO, WpP, R.bind, R.sh, R.truth, toSh]; done)
                  | some z =>
                    simp only [WpO, kChain2]
                    cases prim p [y, z] <;> first | rfl | (simp only [wp_ok, wp_ex, wp_bad, wpf_ret, wpf_ex, wpf_bad, WpO, WpP, R.bind, R.sh, R.truth]; done) | (simp only [wp_ok, wp_ex, wp_bad, wpf_ret, wpf_ex, wpf_bad, WpO, WpP, R.bind, R.sh, R.truth]; rfl) | (simp [wp_ok, wp_ex, wp_bad, wpf_ret, wpf_ex, wpf_bad, WpO, WpP, R.bind, R.sh, R.truth, toSh]; done)
                | _ => first | rfl | (simp only [wp_ok, wp_ex, wp_bad, wpf_ret, wpf_ex, wpf_bad, WpO, WpP, R.bind, R.sh, R.truth]; done) | (simp only [wp_ok, wp_ex, wp_bad, wpf_ret, wpf_ex, wpf_bad, WpO, WpP, R.bind, R.sh, R.truth]; rfl) | (simp [wp_ok, wp_ex, wp_bad, wpf_ret, wpf_ex, wpf_bad, WpO, WpP, R.bind, R.sh, R.truth, toSh]; done)
            | _ => first | rfl | (simp only [wp_ok, wp_ex, wp_bad, wpf_ret, wpf_ex, wpf_bad, WpO, WpP, R.bind, R.sh, R.truth]; done) | (simp only [wp_ok, wp_ex, wp_bad, wpf_ret, wpf_ex, wpf_bad, WpO, WpP, R.bind, R.sh, R.truth]; rfl) | (simp [wp_ok, wp_ex, wp_bad, wpf_ret, wpf_ex, wpf_bad, WpO, WpP, R.bind, R.sh, R.truth, toSh]; done)
          | _ => first | rfl | (simp only [wp_ok, wp_ex, wp_bad, wpf_ret, wpf_ex, wpf_bad, WpO, WpP, R.bind, R.sh, R.truth]; done) | (simp only [wp_ok, wp_ex, wp_bad, wpf_ret, wpf_ex, wpf_bad, WpO, WpP, R.bind, R.sh, R.truth]; rfl) | (simp [wp_ok, wp_ex, wp_bad, wpf_ret, wpf_ex, wpf_bad, WpO, WpP, R.bind, R.sh, R.truth, toSh]; done)
    | _ => first | rfl | (simp only [wp_ok, wp_ex, wp_bad, wpf_ret, wpf_ex, wpf_bad, WpO, WpP, R.bind, R.sh, R.truth]; done) | (simp only [wp_ok, wp_ex, wp_bad, wpf_ret, wpf_ex, wpf_bad, WpO, WpP, R.bind, R.sh, R.truth]; rfl) | (simp [wp_ok, wp_ex, wp_bad, wpf_ret, wpf_ex, wpf_bad, WpO, WpP, R.bind, R.sh, R.truth, toSh]; done)
  cases ev Phi a r with
  | ok s r1 =>
    simp only [wp_ok, kSh]
    cases toSh s with
    | none => first | rfl | (simp only [wp_ok, wp_ex, wp_bad, wpf_ret, wpf_ex, wpf_bad, WpO, WpP, R.bind, R.sh, R.truth]; done) | (simp only [wp_ok, wp_ex, wp_bad, wpf_ret, wpf_ex, wpf_bad, WpO, WpP, R.bind, R.sh, R.truth]; rfl) | (simp [wp_ok, wp_ex, wp_bad, wpf_ret, wpf_ex, wpf_bad, WpO, WpP, R.bind, R.sh, R.truth, toSh]; done)
    | some x => simp only [WpO]; exact (e x r1).symm
  | _ => first | rfl | (simp only [wp_ok, wp_ex, wp_bad, wpf_ret, wpf_ex, wpf_bad, WpO, WpP, R.bind, R.sh, R.truth]; done) | (simp only [wp_ok, wp_ex, wp_bad, wpf_ret, wpf_ex, wpf_bad, WpO, WpP, R.bind, R.sh, R.truth]; rfl) | (simp [wp_ok, wp_ex, wp_bad, wpf_ret, wpf_ex, wpf_bad, WpO, WpP, R.bind, R.sh, R.truth, toSh]; done)
theorem wp_lc {elt : CE} {tg : CT} {it : CI} {cond : CEs} {own : List (Str × Nat)} : Wp (ev Phi (.lc elt tg it cond own) r) Q E ↔ Wp (evI Phi it r) (kLc Phi elt tg cond (own.map (·.2)) Q E) E := by
  simp only [ev, Wp.bind]; (first | rfl | (simp only [wp_ok, wp_ex, wp_bad, wpf_ret, wpf_ex, wpf_bad, WpO, WpP, R.bind, R.sh, R.truth]; done) | (simp only [wp_ok, wp_ex, wp_bad, wpf_ret, wpf_ex, wpf_bad, WpO, WpP, R.bind, R.sh, R.truth]; rfl) | (simp [wp_ok, wp_ex, wp_bad, wpf_ret, wpf_ex, wpf_bad, WpO, WpP, R.bind, R.sh, R.truth, toSh]; done))
theorem wp_call {f : Nat} {es : CEs} : Wp (ev Phi (.call f es) r) Q E ↔ Wp (evA Phi es r) (kCall Phi f Q E) E := by
  simp only [ev, Wp.bind]
  cases evA Phi es r with
  | ok x r1 =>
    simp only [wp_ok, kCall]
    cases mvs x r1 with
    | none => first | rfl | (simp only [wp_ok, wp_ex, wp_bad, wpf_ret, wpf_ex, wpf_bad, WpO, WpP, R.bind, R.sh, R.truth]; done) | (simp only [wp_ok, wp_ex, wp_bad, wpf_ret, wpf_ex, wpf_bad, WpO, WpP, R.bind, R.sh, R.truth]; rfl) | (simp [wp_ok, wp_ex, wp_bad, wpf_ret, wpf_ex, wpf_bad, WpO, WpP, R.bind, R.sh, R.truth, toSh]; done)
    | some p =>
      obtain ⟨args, ls, r2⟩ := p
      simp only [WpO]
      cases Phi f args <;> first | rfl | (simp only [wp_ok, wp_ex, wp_bad, wpf_ret, wpf_ex, wpf_bad, WpO, WpP, R.bind, R.sh, R.truth]; done) | (simp only [wp_ok, wp_ex, wp_bad, wpf_ret, wpf_ex, wpf_bad, WpO, WpP, R.bind, R.sh, R.truth]; rfl) | (simp [wp_ok, wp_ex, wp_bad, wpf_ret, wpf_ex, wpf_bad, WpO, WpP, R.bind, R.sh, R.truth, toSh]; done)
  | _ => first | rfl | (simp only [wp_ok, wp_ex, wp_bad, wpf_ret, wpf_ex, wpf_bad, WpO, WpP, R.bind, R.sh, R.truth]; done) | (simp only [wp_ok, wp_ex, wp_bad, wpf_ret, wpf_ex, wpf_bad, WpO, WpP, R.bind, R.sh, R.truth]; rfl) | (simp [wp_ok, wp_ex, wp_bad, wpf_ret, wpf_ex, wpf_bad, WpO, WpP, R.bind, R.sh, R.truth, toSh]; done)
theorem isL_cases (r : Ro) (i : Nat) : (∃ ds, r[i]? = some (.lst ds)) ∨ isLs r i = false := by
  unfold isLs
  cases r[i]? with
  | none => exact .inr rfl
  | some s => cases s <;> first | exact .inr rfl | exact .inl ⟨_, rfl⟩
theorem wp_pop {i : Nat} {c : CE} : Wp (ev Phi (.pop i c) r) Q E ↔ isLs r i = true ∧ Wp (ev Phi c r) (kSh (kPop i Q)) E := by
  rcases isL_cases r i with ⟨ds, h⟩ | h
  case inr =>
    simp only [h, Bool.false_eq_true, false_and, iff_false]
    simp only [ev]
    unfold isLs at h
    split <;> simp_all [wp_bad]
  have h2 : isLs r i = true := by unfold isLs; rw [h]
  simp only [h2, true_and]
  simp only [ev, h, Wp.bind, Wp.sh]
  cases ev Phi c r with
  | ok s r1 =>
    simp only [wp_ok, kSh]
    cases toSh s with
    | none => first | rfl | (simp only [wp_ok, wp_ex, wp_bad, wpf_ret, wpf_ex, wpf_bad, WpO, WpP, R.bind, R.sh, R.truth]; done) | (simp only [wp_ok, wp_ex, wp_bad, wpf_ret, wpf_ex, wpf_bad, WpO, WpP, R.bind, R.sh, R.truth]; rfl) | (simp [wp_ok, wp_ex, wp_bad, wpf_ret, wpf_ex, wpf_bad, WpO, WpP, R.bind, R.sh, R.truth, toSh]; done)
    | some d =>
      simp only [WpO, kPop]
      cases d with
      | int n =>
        cases r1[i]? with
        | none => first | rfl | (simp only [wp_ok, wp_ex, wp_bad, wpf_ret, wpf_ex, wpf_bad, WpO, WpP, R.bind, R.sh, R.truth]; done) | (simp only [wp_ok, wp_ex, wp_bad, wpf_ret, wpf_ex, wpf_bad, WpO, WpP, R.bind, R.sh, R.truth]; rfl) | (simp [wp_ok, wp_ex, wp_bad, wpf_ret, wpf_ex, wpf_bad, WpO, WpP, R.bind, R.sh, R.truth, toSh]; done)
        | some t =>
          cases t with
          | lst es =>
            simp only
            cases ixN es.length n with
            | none => first | rfl | (simp only [wp_ok, wp_ex, wp_bad, wpf_ret, wpf_ex, wpf_bad, WpO, WpP, R.bind, R.sh, R.truth]; done) | (simp only [wp_ok, wp_ex, wp_bad, wpf_ret, wpf_ex, wpf_bad, WpO, WpP, R.bind, R.sh, R.truth]; rfl) | (simp [wp_ok, wp_ex, wp_bad, wpf_ret, wpf_ex, wpf_bad, WpO, WpP, R.bind, R.sh, R.truth, toSh]; done)
            | some j =>
              simp only
              cases es[j]? <;> first | rfl | (simp only [wp_ok, wp_ex, wp_bad, wpf_ret, wpf_ex, wpf_bad, WpO, WpP, R.bind, R.sh, R.truth]; done) | (simp only [wp_ok, wp_ex, wp_bad, wpf_ret, wpf_ex, wpf_bad, WpO, WpP, R.bind, R.sh, R.truth]; rfl) | (simp [wp_ok, wp_ex, wp_bad, wpf_ret, wpf_ex, wpf_bad, WpO, WpP, R.bind, R.sh, R.truth, toSh]; done)
          | _ => first | rfl | (simp only [wp_ok, wp_ex, wp_bad, wpf_ret, wpf_ex, wpf_bad, WpO, WpP, R.bind, R.sh, R.truth]; done) | (simp only [wp_ok, wp_ex, wp_bad, wpf_ret, wpf_ex, wpf_bad, WpO, WpP, R.bind, R.sh, R.truth]; rfl) | (simp [wp_ok, wp_ex, wp_bad, wpf_ret, wpf_ex, wpf_bad, WpO, WpP, R.bind, R.sh, R.truth, toSh]; done)
      | _ => first | rfl | (simp only [wp_ok, wp_ex, wp_bad, wpf_ret, wpf_ex, wpf_bad, WpO, WpP, R.bind, R.sh, R.truth]; done) | (simp only [wp_ok, wp_ex, wp_bad, wpf_ret, wpf_ex, wpf_bad, WpO, WpP, R.bind, R.sh, R.truth]; rfl) | (simp [wp_ok, wp_ex, wp_bad, wpf_ret, wpf_ex, wpf_bad, WpO, WpP, R.bind, R.sh, R.truth, toSh]; done)
  | _ => first | rfl | (simp only [wp_ok, wp_ex, wp_bad, wpf_ret, wpf_ex, wpf_bad, WpO, WpP, R.bind, R.sh, R.truth]; done) | (simp only [wp_ok, wp_ex, wp_bad, wpf_ret, wpf_ex, wpf_bad, WpO, WpP, R.bind, R.sh, R.truth]; rfl) | (simp [wp_ok, wp_ex, wp_bad, wpf_ret, wpf_ex, wpf_bad, WpO, WpP, R.bind, R.sh, R.truth, toSh]; done)
/-! lists of expressions -/
theorem wp_evs_nil {Q : List PyData → Ro → Prop} : Wp (evs Phi .nil r) Q E ↔ Q [] r := by simp only [evs, wp_ok, wp_ex, wp_bad]
theorem wp_evs_cons {c : CE} {es : CEs} {Q : List PyData → Ro → Prop} : Wp (evs Phi (.cons c es) r) Q E ↔ Wp (ev Phi c r) (kEs Phi es Q E) E := by
  simp only [evs, Wp.bind, Wp.sh]
  cases ev Phi c r with
  | ok s r1 => simp only [wp_ok, kSh, kEs]; (first | rfl | (simp only [wp_ok, wp_ex, wp_bad, wpf_ret, wpf_ex, wpf_bad, WpO, WpP, R.bind, R.sh, R.truth]; done) | (simp only [wp_ok, wp_ex, wp_bad, wpf_ret, wpf_ex, wpf_bad, WpO, WpP, R.bind, R.sh, R.truth]; rfl) | (simp [wp_ok, wp_ex, wp_bad, wpf_ret, wpf_ex, wpf_bad, WpO, WpP, R.bind, R.sh, R.truth, toSh]; done))
  | _ => first | rfl | (simp only [wp_ok, wp_ex, wp_bad, wpf_ret, wpf_ex, wpf_bad, WpO, WpP, R.bind, R.sh, R.truth]; done) | (simp only [wp_ok, wp_ex, wp_bad, wpf_ret, wpf_ex, wpf_bad, WpO, WpP, R.bind, R.sh, R.truth]; rfl) | (simp [wp_ok, wp_ex, wp_bad, wpf_ret, wpf_ex, wpf_bad, WpO, WpP, R.bind, R.sh, R.truth, toSh]; done)
theorem wp_rds_nil {Q : List Od → Ro → Prop} : Wp (rds Phi .nil r) Q E ↔ Q [] r := by simp only [rds, wp_ok, wp_ex, wp_bad]
theorem wp_rds_var {i : Nat} {es : CEs} {Q : List Od → Ro → Prop} : Wp (rds Phi (.cons (.var i) es) r) Q E ↔ has r i = true ∧ Wp (rds Phi es r) (kPl i Q) E := by
  simp only [rds]
  by_cases h : has r i = true
  · simp only [h, if_true, Wp.bind, true_and]; (first | rfl | (simp only [wp_ok, wp_ex, wp_bad, wpf_ret, wpf_ex, wpf_bad, WpO, WpP, R.bind, R.sh, R.truth]; done) | (simp only [wp_ok, wp_ex, wp_bad, wpf_ret, wpf_ex, wpf_bad, WpO, WpP, R.bind, R.sh, R.truth]; rfl) | (simp [wp_ok, wp_ex, wp_bad, wpf_ret, wpf_ex, wpf_bad, WpO, WpP, R.bind, R.sh, R.truth, toSh]; done))
  · simp [h, wp_ok, wp_ex, wp_bad]
theorem rds_gen {c : CE} {es : CEs} {Q : List Od → Ro → Prop} (e : rds Phi (.cons c es) r = (ev Phi c r).sh.bind fun d r1 => (rds Phi es r1).bind fun ds r2 => .ok (.da d :: ds) r2) : Wp (rds Phi (.cons c es) r) Q E ↔ Wp (ev Phi c r) (kDs Phi es Q E) E := by
  rw [e, Wp.bind, Wp.sh]
  cases ev Phi c r with
  | ok s r1 =>
    simp only [wp_ok, kSh, kDs]
    cases toSh s with
    | none => first | rfl | (simp only [wp_ok, wp_ex, wp_bad, wpf_ret, wpf_ex, wpf_bad, WpO, WpP, R.bind, R.sh, R.truth]; done) | (simp only [wp_ok, wp_ex, wp_bad, wpf_ret, wpf_ex, wpf_bad, WpO, WpP, R.bind, R.sh, R.truth]; rfl) | (simp [wp_ok, wp_ex, wp_bad, wpf_ret, wpf_ex, wpf_bad, WpO, WpP, R.bind, R.sh, R.truth, toSh]; done)
    | some d => simp only [WpO, Wp.bind]; (first | rfl | (simp only [wp_ok, wp_ex, wp_bad, wpf_ret, wpf_ex, wpf_bad, WpO, WpP, R.bind, R.sh, R.truth]; done) | (simp only [wp_ok, wp_ex, wp_bad, wpf_ret, wpf_ex, wpf_bad, WpO, WpP, R.bind, R.sh, R.truth]; rfl) | (simp [wp_ok, wp_ex, wp_bad, wpf_ret, wpf_ex, wpf_bad, WpO, WpP, R.bind, R.sh, R.truth, toSh]; done))
  | _ => first | rfl | (simp only [wp_ok, wp_ex, wp_bad, wpf_ret, wpf_ex, wpf_bad, WpO, WpP, R.bind, R.sh, R.truth]; done) | (simp only [wp_ok, wp_ex, wp_bad, wpf_ret, wpf_ex, wpf_bad, WpO, WpP, R.bind, R.sh, R.truth]; rfl) | (simp [wp_ok, wp_ex, wp_bad, wpf_ret, wpf_ex, wpf_bad, WpO, WpP, R.bind, R.sh, R.truth, toSh]; done)
theorem wp_rds_cst {d : PyData} {es : CEs} {Q : List Od → Ro → Prop} : Wp (rds Phi (.cons (.cst d) es) r) Q E ↔ Wp (rds Phi es r) (kDb d Q) E := by
  rw [rds_gen (by simp only [rds]), wp_cst]; (first | rfl | (simp only [wp_ok, wp_ex, wp_bad, wpf_ret, wpf_ex, wpf_bad, WpO, WpP, R.bind, R.sh, R.truth]; done) | (simp only [wp_ok, wp_ex, wp_bad, wpf_ret, wpf_ex, wpf_bad, WpO, WpP, R.bind, R.sh, R.truth]; rfl) | (simp [wp_ok, wp_ex, wp_bad, wpf_ret, wpf_ex, wpf_bad, WpO, WpP, R.bind, R.sh, R.truth, toSh]; done))
theorem wp_rds_glob {x : Str} {d : PyData} {es : CEs} {Q : List Od → Ro → Prop} : Wp (rds Phi (.cons (.glob x d) es) r) Q E ↔ Wp (rds Phi es r) (kDb d Q) E := by
  rw [rds_gen (by simp only [rds]), wp_glob]; (first | rfl | (simp only [wp_ok, wp_ex, wp_bad, wpf_ret, wpf_ex, wpf_bad, WpO, WpP, R.bind, R.sh, R.truth]; done) | (simp only [wp_ok, wp_ex, wp_bad, wpf_ret, wpf_ex, wpf_bad, WpO, WpP, R.bind, R.sh, R.truth]; rfl) | (simp [wp_ok, wp_ex, wp_bad, wpf_ret, wpf_ex, wpf_bad, WpO, WpP, R.bind, R.sh, R.truth, toSh]; done))
theorem wp_rds_op {o : Op} {cs es : CEs} {Q : List Od → Ro → Prop} : Wp (rds Phi (.cons (.op o cs) es) r) Q E ↔ Wp (ev Phi (.op o cs) r) (kDs Phi es Q E) E := rds_gen (by simp only [rds])
theorem wp_rds_xop {o : Op} {cs es : CEs} {Q : List Od → Ro → Prop} : Wp (rds Phi (.cons (.xop o cs) es) r) Q E ↔ Wp (ev Phi (.xop o cs) r) (kDs Phi es Q E) E := rds_gen (by simp only [rds])
theorem wp_rds_meth {o : Op} {i : Nat} {cs es : CEs} {Q : List Od → Ro → Prop} : Wp (rds Phi (.cons (.meth o i cs) es) r) Q E ↔ Wp (ev Phi (.meth o i cs) r) (kDs Phi es Q E) E := rds_gen (by simp only [rds])
theorem wp_rds_tup {cs es : CEs} {Q : List Od → Ro → Prop} : Wp (rds Phi (.cons (.tup cs) es) r) Q E ↔ Wp (ev Phi (.tup cs) r) (kDs Phi es Q E) E := rds_gen (by simp only [rds])
theorem wp_rds_lst {cs es : CEs} {Q : List Od → Ro → Prop} : Wp (rds Phi (.cons (.lst cs) es) r) Q E ↔ Wp (ev Phi (.lst cs) r) (kDs Phi es Q E) E := rds_gen (by simp only [rds])
theorem wp_rds_not {c : CE} {es : CEs} {Q : List Od → Ro → Prop} : Wp (rds Phi (.cons (.not c) es) r) Q E ↔ Wp (ev Phi (.not c) r) (kDs Phi es Q E) E := rds_gen (by simp only [rds])
theorem wp_rds_and {c d : CE} {es : CEs} {Q : List Od → Ro → Prop} : Wp (rds Phi (.cons (.and c d) es) r) Q E ↔ Wp (ev Phi (.and c d) r) (kDs Phi es Q E) E := rds_gen (by simp only [rds])
theorem wp_rds_or {c d : CE} {es : CEs} {Q : List Od → Ro → Prop} : Wp (rds Phi (.cons (.or c d) es) r) Q E ↔ Wp (ev Phi (.or c d) r) (kDs Phi es Q E) E := rds_gen (by simp only [rds])
theorem wp_rds_chain {o p : Op} {a b c : CE} {es : CEs} {Q : List Od → Ro → Prop} : Wp (rds Phi (.cons (.chain o p a b c) es) r) Q E ↔ Wp (ev Phi (.chain o p a b c) r) (kDs Phi es Q E) E := rds_gen (by simp only [rds])
theorem wp_rds_lc {elt : CE} {tg : CT} {it : CI} {cond : CEs} {own : List (Str × Nat)} {es : CEs} {Q : List Od → Ro → Prop} : Wp (rds Phi (.cons (.lc elt tg it cond own) es) r) Q E ↔ Wp (ev Phi (.lc elt tg it cond own) r) (kDs Phi es Q E) E := rds_gen (by simp only [rds])
theorem wp_rds_call {f : Nat} {cs es : CEs} {Q : List Od → Ro → Prop} : Wp (rds Phi (.cons (.call f cs) es) r) Q E ↔ Wp (ev Phi (.call f cs) r) (kDs Phi es Q E) E := rds_gen (by simp only [rds])
theorem wp_rds_pop {i : Nat} {c : CE} {es : CEs} {Q : List Od → Ro → Prop} : Wp (rds Phi (.cons (.pop i c) es) r) Q E ↔ Wp (ev Phi (.pop i c) r) (kDs Phi es Q E) E := rds_gen (by simp only [rds])
theorem wp_rds_shr {i : Nat} {es : CEs} {Q : List Od → Ro → Prop} : Wp (rds Phi (.cons (.shr i) es) r) Q E ↔ Wp (ev Phi (.shr i) r) (kDs Phi es Q E) E := rds_gen (by simp only [rds])
theorem wp_rds_xnew {c : Nat} {f : String} {a : CE} {es : CEs} {Q : List Od → Ro → Prop} : Wp (rds Phi (.cons (.xnew c f a) es) r) Q E ↔ Wp (ev Phi (.xnew c f a) r) (kDs Phi es Q E) E := rds_gen (by simp only [rds])
theorem wp_rds_sl2 {a lo hi : CE} {es : CEs} {Q : List Od → Ro → Prop} : Wp (rds Phi (.cons (.sl2 a lo hi) es) r) Q E ↔ Wp (ev Phi (.sl2 a lo hi) r) (kDs Phi es Q E) E := rds_gen (by simp only [rds])
theorem wp_rds_dnew {t : Bool} {es : CEs} {Q : List Od → Ro → Prop} : Wp (rds Phi (.cons (.dnew t) es) r) Q E ↔ Wp (ev Phi (.dnew t) r) (kDs Phi es Q E) E := rds_gen (by simp only [rds])
theorem wp_evA_nil {Q : List Od → Ro → Prop} : Wp (evA Phi .nil r) Q E ↔ Q [] r := by simp only [evA, wp_ok, wp_ex, wp_bad]
theorem wp_evA_ref {i : Nat} {es : CEs} {Q : List Od → Ro → Prop} : Wp (evA Phi (.cons (.ref i) es) r) Q E ↔ has r i = true ∧ Wp (evA Phi es r) (kPl i Q) E := by
  simp only [evA]
  by_cases h : has r i = true
  · simp only [h, if_true, Wp.bind, true_and]; (first | rfl | (simp only [wp_ok, wp_ex, wp_bad, wpf_ret, wpf_ex, wpf_bad, WpO, WpP, R.bind, R.sh, R.truth]; done) | (simp only [wp_ok, wp_ex, wp_bad, wpf_ret, wpf_ex, wpf_bad, WpO, WpP, R.bind, R.sh, R.truth]; rfl) | (simp [wp_ok, wp_ex, wp_bad, wpf_ret, wpf_ex, wpf_bad, WpO, WpP, R.bind, R.sh, R.truth, toSh]; done))
  · simp [h, wp_ok, wp_ex, wp_bad]
theorem wp_evA_own {c : CE} {es : CEs} {Q : List Od → Ro → Prop} : Wp (evA Phi (.cons (.own c) es) r) Q E ↔ Wp (ev Phi c r) (kTA Phi es Q E) E := by
  simp only [evA, Wp.bind]; (first | rfl | (simp only [wp_ok, wp_ex, wp_bad, wpf_ret, wpf_ex, wpf_bad, WpO, WpP, R.bind, R.sh, R.truth]; done) | (simp only [wp_ok, wp_ex, wp_bad, wpf_ret, wpf_ex, wpf_bad, WpO, WpP, R.bind, R.sh, R.truth]; rfl) | (simp [wp_ok, wp_ex, wp_bad, wpf_ret, wpf_ex, wpf_bad, WpO, WpP, R.bind, R.sh, R.truth, toSh]; done))
theorem evA_gen {c : CE} {es : CEs} {Q : List Od → Ro → Prop} (e : evA Phi (.cons c es) r = (ev Phi c r).sh.bind fun d r1 => (evA Phi es r1).bind fun ds r2 => .ok (.da d :: ds) r2) : Wp (evA Phi (.cons c es) r) Q E ↔ Wp (ev Phi c r) (kDA Phi es Q E) E := by
  rw [e, Wp.bind, Wp.sh]
  cases ev Phi c r with
  | ok s r1 =>
    simp only [wp_ok, kSh, kDA]
    cases toSh s with
    | none => first | rfl | (simp only [wp_ok, wp_ex, wp_bad, wpf_ret, wpf_ex, wpf_bad, WpO, WpP, R.bind, R.sh, R.truth]; done) | (simp only [wp_ok, wp_ex, wp_bad, wpf_ret, wpf_ex, wpf_bad, WpO, WpP, R.bind, R.sh, R.truth]; rfl) | (simp [wp_ok, wp_ex, wp_bad, wpf_ret, wpf_ex, wpf_bad, WpO, WpP, R.bind, R.sh, R.truth, toSh]; done)
    | some d => simp only [WpO, Wp.bind]; (first | rfl | (simp only [wp_ok, wp_ex, wp_bad, wpf_ret, wpf_ex, wpf_bad, WpO, WpP, R.bind, R.sh, R.truth]; done) | (simp only [wp_ok, wp_ex, wp_bad, wpf_ret, wpf_ex, wpf_bad, WpO, WpP, R.bind, R.sh, R.truth]; rfl) | (simp [wp_ok, wp_ex, wp_bad, wpf_ret, wpf_ex, wpf_bad, WpO, WpP, R.bind, R.sh, R.truth, toSh]; done))
  | _ => first | rfl | (simp only [wp_ok, wp_ex, wp_bad, wpf_ret, wpf_ex, wpf_bad, WpO, WpP, R.bind, R.sh, R.truth]; done) | (simp only [wp_ok, wp_ex, wp_bad, wpf_ret, wpf_ex, wpf_bad, WpO, WpP, R.bind, R.sh, R.truth]; rfl) | (simp [wp_ok, wp_ex, wp_bad, wpf_ret, wpf_ex, wpf_bad, WpO, WpP, R.bind, R.sh, R.truth, toSh]; done)
theorem wp_evA_cst {d : PyData} {es : CEs} {Q : List Od → Ro → Prop} : Wp (evA Phi (.cons (.cst d) es) r) Q E ↔ Wp (evA Phi es r) (kDb d Q) E := by
  rw [evA_gen (by simp only [evA]), wp_cst]; (first | rfl | (simp only [wp_ok, wp_ex, wp_bad, wpf_ret, wpf_ex, wpf_bad, WpO, WpP, R.bind, R.sh, R.truth]; done) | (simp only [wp_ok, wp_ex, wp_bad, wpf_ret, wpf_ex, wpf_bad, WpO, WpP, R.bind, R.sh, R.truth]; rfl) | (simp [wp_ok, wp_ex, wp_bad, wpf_ret, wpf_ex, wpf_bad, WpO, WpP, R.bind, R.sh, R.truth, toSh]; done))
theorem wp_evA_glob {x : Str} {d : PyData} {es : CEs} {Q : List Od → Ro → Prop} : Wp (evA Phi (.cons (.glob x d) es) r) Q E ↔ Wp (evA Phi es r) (kDb d Q) E := by
  rw [evA_gen (by simp only [evA]), wp_glob]; (first | rfl | (simp only [wp_ok, wp_ex, wp_bad, wpf_ret, wpf_ex, wpf_bad, WpO, WpP, R.bind, R.sh, R.truth]; done) | (simp only [wp_ok, wp_ex, wp_bad, wpf_ret, wpf_ex, wpf_bad, WpO, WpP, R.bind, R.sh, R.truth]; rfl) | (simp [wp_ok, wp_ex, wp_bad, wpf_ret, wpf_ex, wpf_bad, WpO, WpP, R.bind, R.sh, R.truth, toSh]; done))
theorem wp_evA_var {i : Nat} {es : CEs} {Q : List Od → Ro → Prop} : Wp (evA Phi (.cons (.var i) es) r) Q E ↔ Wp (ev Phi (.var i) r) (kDA Phi es Q E) E := evA_gen (by simp only [evA])
theorem wp_evA_op {o : Op} {cs es : CEs} {Q : List Od → Ro → Prop} : Wp (evA Phi (.cons (.op o cs) es) r) Q E ↔ Wp (ev Phi (.op o cs) r) (kDA Phi es Q E) E := evA_gen (by simp only [evA])
theorem wp_evA_xop {o : Op} {cs es : CEs} {Q : List Od → Ro → Prop} : Wp (evA Phi (.cons (.xop o cs) es) r) Q E ↔ Wp (ev Phi (.xop o cs) r) (kDA Phi es Q E) E := evA_gen (by simp only [evA])
theorem wp_evA_meth {o : Op} {i : Nat} {cs es : CEs} {Q : List Od → Ro → Prop} : Wp (evA Phi (.cons (.meth o i cs) es) r) Q E ↔ Wp (ev Phi (.meth o i cs) r) (kDA Phi es Q E) E := evA_gen (by simp only [evA])
theorem wp_evA_tup {cs es : CEs} {Q : List Od → Ro → Prop} : Wp (evA Phi (.cons (.tup cs) es) r) Q E ↔ Wp (ev Phi (.tup cs) r) (kDA Phi es Q E) E := evA_gen (by simp only [evA])
theorem wp_evA_lst {cs es : CEs} {Q : List Od → Ro → Prop} : Wp (evA Phi (.cons (.lst cs) es) r) Q E ↔ Wp (ev Phi (.lst cs) r) (kDA Phi es Q E) E := evA_gen (by simp only [evA])
theorem wp_evA_lc {elt : CE} {tg : CT} {it : CI} {cond : CEs} {own : List (Str × Nat)} {es : CEs} {Q : List Od → Ro → Prop} : Wp (evA Phi (.cons (.lc elt tg it cond own) es) r) Q E ↔ Wp (ev Phi (.lc elt tg it cond own) r) (kDA Phi es Q E) E := evA_gen (by simp only [evA])
theorem wp_evA_call {f : Nat} {cs es : CEs} {Q : List Od → Ro → Prop} : Wp (evA Phi (.cons (.call f cs) es) r) Q E ↔ Wp (ev Phi (.call f cs) r) (kDA Phi es Q E) E := evA_gen (by simp only [evA])
theorem wp_evA_not {c : CE} {es : CEs} {Q : List Od → Ro → Prop} : Wp (evA Phi (.cons (.not c) es) r) Q E ↔ Wp (ev Phi (.not c) r) (kDA Phi es Q E) E := evA_gen (by simp only [evA])
theorem wp_evA_and {c d : CE} {es : CEs} {Q : List Od → Ro → Prop} : Wp (evA Phi (.cons (.and c d) es) r) Q E ↔ Wp (ev Phi (.and c d) r) (kDA Phi es Q E) E := evA_gen (by simp only [evA])
theorem wp_evA_or {c d : CE} {es : CEs} {Q : List Od → Ro → Prop} : Wp (evA Phi (.cons (.or c d) es) r) Q E ↔ Wp (ev Phi (.or c d) r) (kDA Phi es Q E) E := evA_gen (by simp only [evA])
theorem wp_evA_sl2 {a lo hi : CE} {es : CEs} {Q : List Od → Ro → Prop} : Wp (evA Phi (.cons (.sl2 a lo hi) es) r) Q E ↔ Wp (ev Phi (.sl2 a lo hi) r) (kDA Phi es Q E) E := evA_gen (by simp only [evA])
theorem wp_evA_dnew {t : Bool} {es : CEs} {Q : List Od → Ro → Prop} : Wp (evA Phi (.cons (.dnew t) es) r) Q E ↔ Wp (ev Phi (.dnew t) r) (kDA Phi es Q E) E := evA_gen (by simp only [evA])
theorem wp_evA_pop {i : Nat} {c : CE} {es : CEs} {Q : List Od → Ro → Prop} : Wp (evA Phi (.cons (.pop i c) es) r) Q E ↔ Wp (ev Phi (.pop i c) r) (kDA Phi es Q E) E := evA_gen (by simp only [evA])
/-! tests of a clause -/
theorem wp_evC_nil {Q : Bool → Ro → Prop} : Wp (evC Phi .nil r) Q E ↔ Q true r := by simp only [evC, wp_ok, wp_ex, wp_bad]
theorem wp_evC_one {c : CE} {Q : Bool → Ro → Prop} : Wp (evC Phi (.cons c .nil) r) Q E ↔ Wp (ev Phi c r) (kTr Q) E := by simp only [evC, Wp.truth]
/-! what is walked -/
theorem wp_evI_rng1 {c : CE} {Q : List PyData × List Lk → Ro → Prop} : Wp (evI Phi (.rng1 c) r) Q E ↔ Wp (ev Phi c r) (kSh (kRng1 Q)) E := by
  simp only [evI, Wp.bind, Wp.sh]
  cases ev Phi c r with
  | ok s r1 =>
    simp only [wp_ok, kSh]
    cases toSh s with
    | none => first | rfl | (simp only [wp_ok, wp_ex, wp_bad, wpf_ret, wpf_ex, wpf_bad, WpO, WpP, R.bind, R.sh, R.truth]; done) | (simp only [wp_ok, wp_ex, wp_bad, wpf_ret, wpf_ex, wpf_bad, WpO, WpP, R.bind, R.sh, R.truth]; rfl) | (simp [wp_ok, wp_ex, wp_bad, wpf_ret, wpf_ex, wpf_bad, WpO, WpP, R.bind, R.sh, R.truth, toSh]; done)
    | some d =>
      simp only [WpO, kRng1]
      cases d with
      | int n =>
        simp only
        by_cases h : (in62 n && small n.toNat) = true
        · rw [if_pos h]; simp only [rgA, h, wp_ok, true_and]
        · rw [if_neg h]; simp only [rgA, h, wp_ok, wp_ex, wp_bad]; simp
      | _ => first | rfl | (simp only [wp_ok, wp_ex, wp_bad, wpf_ret, wpf_ex, wpf_bad, WpO, WpP, R.bind, R.sh, R.truth]; done) | (simp only [wp_ok, wp_ex, wp_bad, wpf_ret, wpf_ex, wpf_bad, WpO, WpP, R.bind, R.sh, R.truth]; rfl) | (simp [wp_ok, wp_ex, wp_bad, wpf_ret, wpf_ex, wpf_bad, WpO, WpP, R.bind, R.sh, R.truth, toSh]; done)
  | _ => first | rfl | (simp only [wp_ok, wp_ex, wp_bad, wpf_ret, wpf_ex, wpf_bad, WpO, WpP, R.bind, R.sh, R.truth]; done) | (simp only [wp_ok, wp_ex, wp_bad, wpf_ret, wpf_ex, wpf_bad, WpO, WpP, R.bind, R.sh, R.truth]; rfl) | (simp [wp_ok, wp_ex, wp_bad, wpf_ret, wpf_ex, wpf_bad, WpO, WpP, R.bind, R.sh, R.truth, toSh]; done)
theorem wp_evI_rng2 {c d : CE} {Q : List PyData × List Lk → Ro → Prop} : Wp (evI Phi (.rng2 c d) r) Q E ↔ Wp (ev Phi c r) (kSh (kRng2 Phi d Q E)) E := by
  simp only [evI, Wp.bind, Wp.sh]
  cases ev Phi c r with
  | ok s r1 =>
    simp only [wp_ok, kSh]
    cases toSh s with
    | none => first | rfl | (simp only [wp_ok, wp_ex, wp_bad, wpf_ret, wpf_ex, wpf_bad, WpO, WpP, R.bind, R.sh, R.truth]; done) | (simp only [wp_ok, wp_ex, wp_bad, wpf_ret, wpf_ex, wpf_bad, WpO, WpP, R.bind, R.sh, R.truth]; rfl) | (simp [wp_ok, wp_ex, wp_bad, wpf_ret, wpf_ex, wpf_bad, WpO, WpP, R.bind, R.sh, R.truth, toSh]; done)
    | some m =>
      simp only [WpO, kRng2]
      cases ev Phi d r1 with
      | ok s2 r2 =>
        simp only [wp_ok, kSh]
        cases toSh s2 with
        | none => first | rfl | (simp only [wp_ok, wp_ex, wp_bad, wpf_ret, wpf_ex, wpf_bad, WpO, WpP, R.bind, R.sh, R.truth]; done) | (simp only [wp_ok, wp_ex, wp_bad, wpf_ret, wpf_ex, wpf_bad, WpO, WpP, R.bind, R.sh, R.truth]; rfl) | (simp [wp_ok, wp_ex, wp_bad, wpf_ret, wpf_ex, wpf_bad, WpO, WpP, R.bind, R.sh, R.truth, toSh]; done)
        | some n =>
          simp only [WpO, kRng2b]
          cases m with
          | int m =>
            cases n with
            | int n =>
              simp only
              by_cases h : (in62 m && in62 n && small (n - m).toNat) = true
              · rw [if_pos h]; simp only [rgB, h, wp_ok, true_and]
              · rw [if_neg h]; simp only [rgB, h, wp_ok, wp_ex, wp_bad]; simp
            | _ => first | rfl | (simp only [wp_ok, wp_ex, wp_bad, wpf_ret, wpf_ex, wpf_bad, WpO, WpP, R.bind, R.sh, R.truth]; done) | (simp only [wp_ok, wp_ex, wp_bad, wpf_ret, wpf_ex, wpf_bad, WpO, WpP, R.bind, R.sh, R.truth]; rfl) | (simp [wp_ok, wp_ex, wp_bad, wpf_ret, wpf_ex, wpf_bad, WpO, WpP, R.bind, R.sh, R.truth, toSh]; done)
          | _ => cases n <;> first | rfl | (simp only [wp_ok, wp_ex, wp_bad, wpf_ret, wpf_ex, wpf_bad, WpO, WpP, R.bind, R.sh, R.truth]; done) | (simp only [wp_ok, wp_ex, wp_bad, wpf_ret, wpf_ex, wpf_bad, WpO, WpP, R.bind, R.sh, R.truth]; rfl) | (simp [wp_ok, wp_ex, wp_bad, wpf_ret, wpf_ex, wpf_bad, WpO, WpP, R.bind, R.sh, R.truth, toSh]; done)
      | _ => first | rfl | (simp only [wp_ok, wp_ex, wp_bad, wpf_ret, wpf_ex, wpf_bad, WpO, WpP, R.bind, R.sh, R.truth]; done) | (simp only [wp_ok, wp_ex, wp_bad, wpf_ret, wpf_ex, wpf_bad, WpO, WpP, R.bind, R.sh, R.truth]; rfl) | (simp [wp_ok, wp_ex, wp_bad, wpf_ret, wpf_ex, wpf_bad, WpO, WpP, R.bind, R.sh, R.truth, toSh]; done)
  | _ => first | rfl | (simp only [wp_ok, wp_ex, wp_bad, wpf_ret, wpf_ex, wpf_bad, WpO, WpP, R.bind, R.sh, R.truth]; done) | (simp only [wp_ok, wp_ex, wp_bad, wpf_ret, wpf_ex, wpf_bad, WpO, WpP, R.bind, R.sh, R.truth]; rfl) | (simp [wp_ok, wp_ex, wp_bad, wpf_ret, wpf_ex, wpf_bad, WpO, WpP, R.bind, R.sh, R.truth, toSh]; done)
theorem wp_evI_prs {z : Bool} {es : CEs} {Q : List PyData × List Lk → Ro → Prop} : Wp (evI Phi (.prs z es) r) Q E ↔ Wp (rds Phi es r) (kPrs z Q) E := by
  simp only [evI, Wp.bind]
  cases rds Phi es r with
  | ok x r1 =>
    simp only [wp_ok, kPrs]
    cases lks x r1 with
    | none => first | rfl | (simp only [wp_ok, wp_ex, wp_bad, wpf_ret, wpf_ex, wpf_bad, WpO, WpP, R.bind, R.sh, R.truth]; done) | (simp only [wp_ok, wp_ex, wp_bad, wpf_ret, wpf_ex, wpf_bad, WpO, WpP, R.bind, R.sh, R.truth]; rfl) | (simp [wp_ok, wp_ex, wp_bad, wpf_ret, wpf_ex, wpf_bad, WpO, WpP, R.bind, R.sh, R.truth, toSh]; done)
    | some p =>
      obtain ⟨ds, ls, r2⟩ := p
      simp only [WpO]
      cases prsI z ds <;> first | rfl | (simp only [wp_ok, wp_ex, wp_bad, wpf_ret, wpf_ex, wpf_bad, WpO, WpP, R.bind, R.sh, R.truth]; done) | (simp only [wp_ok, wp_ex, wp_bad, wpf_ret, wpf_ex, wpf_bad, WpO, WpP, R.bind, R.sh, R.truth]; rfl) | (simp [wp_ok, wp_ex, wp_bad, wpf_ret, wpf_ex, wpf_bad, WpO, WpP, R.bind, R.sh, R.truth, toSh]; done)
  | _ => first | rfl | (simp only [wp_ok, wp_ex, wp_bad, wpf_ret, wpf_ex, wpf_bad, WpO, WpP, R.bind, R.sh, R.truth]; done) | (simp only [wp_ok, wp_ex, wp_bad, wpf_ret, wpf_ex, wpf_bad, WpO, WpP, R.bind, R.sh, R.truth]; rfl) | (simp [wp_ok, wp_ex, wp_bad, wpf_ret, wpf_ex, wpf_bad, WpO, WpP, R.bind, R.sh, R.truth, toSh]; done)
theorem wp_evI_var {i : Nat} {Q : List PyData × List Lk → Ro → Prop} : Wp (evI Phi (.seq (.var i)) r) Q E ↔ WpO (lk1 r (.pl i)) fun p => Wp (seqI p.1 p.2.1 p.2.2) Q E := by
  simp only [evI]
  cases lk1 r (.pl i) <;> first | rfl | (simp only [wp_ok, wp_ex, wp_bad, wpf_ret, wpf_ex, wpf_bad, WpO, WpP, R.bind, R.sh, R.truth]; done) | (simp only [wp_ok, wp_ex, wp_bad, wpf_ret, wpf_ex, wpf_bad, WpO, WpP, R.bind, R.sh, R.truth]; rfl) | (simp [wp_ok, wp_ex, wp_bad, wpf_ret, wpf_ex, wpf_bad, WpO, WpP, R.bind, R.sh, R.truth, toSh]; done)
theorem evI_gen {c : CE} {Q : List PyData × List Lk → Ro → Prop} (e : evI Phi (.seq c) r = (ev Phi c r).sh.bind fun d r1 => seqI d [] r1) : Wp (evI Phi (.seq c) r) Q E ↔ Wp (ev Phi c r) (kSh (kSeqI Q E)) E := by
  rw [e, Wp.bind, Wp.sh]; (first | rfl | (simp only [wp_ok, wp_ex, wp_bad, wpf_ret, wpf_ex, wpf_bad, WpO, WpP, R.bind, R.sh, R.truth]; done) | (simp only [wp_ok, wp_ex, wp_bad, wpf_ret, wpf_ex, wpf_bad, WpO, WpP, R.bind, R.sh, R.truth]; rfl) | (simp [wp_ok, wp_ex, wp_bad, wpf_ret, wpf_ex, wpf_bad, WpO, WpP, R.bind, R.sh, R.truth, toSh]; done))
theorem wp_evI_shr {i : Nat} {Q : List PyData × List Lk → Ro → Prop} : Wp (evI Phi (.seq (.shr i)) r) Q E ↔ Wp (ev Phi (.shr i) r) (kSh (kSeqI Q E)) E := evI_gen (by simp only [evI])
theorem wp_evI_op {o : Op} {es : CEs} {Q : List PyData × List Lk → Ro → Prop} : Wp (evI Phi (.seq (.op o es)) r) Q E ↔ Wp (ev Phi (.op o es) r) (kSh (kSeqI Q E)) E := evI_gen (by simp only [evI])
theorem wp_evI_xop {o : Op} {es : CEs} {Q : List PyData × List Lk → Ro → Prop} : Wp (evI Phi (.seq (.xop o es)) r) Q E ↔ Wp (ev Phi (.xop o es) r) (kSh (kSeqI Q E)) E := evI_gen (by simp only [evI])
theorem wp_evI_lst {es : CEs} {Q : List PyData × List Lk → Ro → Prop} : Wp (evI Phi (.seq (.lst es)) r) Q E ↔ Wp (ev Phi (.lst es) r) (kSh (kSeqI Q E)) E := evI_gen (by simp only [evI])
theorem wp_evI_tup {es : CEs} {Q : List PyData × List Lk → Ro → Prop} : Wp (evI Phi (.seq (.tup es)) r) Q E ↔ Wp (ev Phi (.tup es) r) (kSh (kSeqI Q E)) E := evI_gen (by simp only [evI])
theorem wp_evI_call {f : Nat} {es : CEs} {Q : List PyData × List Lk → Ro → Prop} : Wp (evI Phi (.seq (.call f es)) r) Q E ↔ Wp (ev Phi (.call f es) r) (kSh (kSeqI Q E)) E := evI_gen (by simp only [evI])
theorem wp_evI_sl2 {a lo hi : CE} {Q : List PyData × List Lk → Ro → Prop} : Wp (evI Phi (.seq (.sl2 a lo hi)) r) Q E ↔ Wp (ev Phi (.sl2 a lo hi) r) (kSh (kSeqI Q E)) E := evI_gen (by simp only [evI])
theorem wp_evI_lc {elt : CE} {tg : CT} {it : CI} {cond : CEs} {own : List (Str × Nat)} {Q : List PyData × List Lk → Ro → Prop} : Wp (evI Phi (.seq (.lc elt tg it cond own)) r) Q E ↔ Wp (ev Phi (.lc elt tg it cond own) r) (kSh (kSeqI Q E)) E := evI_gen (by simp only [evI])
end

/-! statements -/
section
variable (fu : Nat) (Phi : Nat → Ro → FR)
def kSeq (ss : CSs) (Q : Fl → Ro → Prop) (E : XP) (f : Fl) (r : Ro) : Prop := match f with
  | .nx => Wp (exs fu Phi ss r) Q E
  | .ret s => Q (.ret s) r
def kSet (i : Nat) (Q : Fl → Ro → Prop) (s : Slot) (r : Ro) : Prop := WpO (asgN i s r) (Q .nx)
def kAsg (t : CT) (Q : Fl → Ro → Prop) (d : PyData) (r : Ro) : Prop := WpO (asg t d r) (Q .nx)
def kAug (i : Nat) (o : Op) (x : PyData) (Q : Fl → Ro → Prop) (y : PyData) (r : Ro) : Prop := WpP (prim o [x, y]) r (kSet i Q)
def kIte (a b : CSs) (Q : Fl → Ro → Prop) (E : XP) (x : Bool) (r : Ro) : Prop := (x = true → Wp (exs fu Phi a r) Q E) ∧ (x = false → Wp (exs fu Phi b r) Q E)
def forStep (t : CT) (b : CSs) (d : PyData) (q : Ro) : R Fl := match asg t d q with
  | some q1 => exs fu Phi b q1
  | none => .bad
def kFor2 (ls : List Lk) (Q : Fl → Ro → Prop) (f : Fl) (r : Ro) : Prop := Q f (unlks ls r)
def kFor (t : CT) (b : CSs) (Q : Fl → Ro → Prop) (E : XP) (x : List PyData × List Lk) (r : Ro) : Prop := Wp (turns (forStep fu Phi t b) x.1 r) (kFor2 x.2 Q) E
def kRet (Q : Fl → Ro → Prop) (s : Slot) (r : Ro) : Prop := Q (.ret s) r
def kDrop (Q : Fl → Ro → Prop) (s : Slot) (r : Ro) : Prop := Q .nx r
def kApp (i : Nat) (Q : Fl → Ro → Prop) (y : PyData) (r : Ro) : Prop := match r[i]? with
  | some (.lst ds) => ds.length < 16777216 ∧ Q .nx (r.set i (.lst (ds ++ [y])))
  | _ => False
def kExt (i : Nat) (Q : Fl → Ro → Prop) (y : PyData) (r : Ro) : Prop := match r[i]?, y with
  | some (.lst ds), .list ys => small (ds.length + ys.length) = true ∧ Q .nx (r.set i (.lst (ds ++ ys)))
  | _, _ => False
def kSetL (i : Nat) (y : PyData) (Q : Fl → Ro → Prop) (z : PyData) (r : Ro) : Prop := match z, r[i]? with
  | .int n, some (.lst ds) => WpO (ixN ds.length n) fun j => Q .nx (r.set i (.lst (ds.set j y)))
  | _, _ => False
def kSetD (i : Nat) (y : PyData) (Q : Fl → Ro → Prop) (z : PyData) (r : Ro) : Prop := match r[i]? with
  | some (.dct t kvs) => (isKey t z = true ∧ kvs.length < 16777216) ∧ Q .nx (r.set i (.dct t (putD z y kvs)))
  | _ => False
def kSetI (i : Nat) (k : CE) (Q : Fl → Ro → Prop) (E : XP) (y : PyData) (r : Ro) : Prop := match r[i]? with
  | some (.lst _) => Wp (ev Phi k r) (kSh (kSetL i y Q)) E
  | some (.dct _ _) => Wp (ev Phi k r) (kSh (kSetD i y Q)) E
  | _ => False
def kMove (i j : Nat) (Q : Fl → Ro → Prop) (r : Ro) : Prop := match r[j]? with
  | some (.lst ds) => WpO (asgN i (.lst ds) (r.set j .non)) (Q .nx)
  | some (.dct t kvs) => WpO (asgN i (.dct t kvs) (r.set j .non)) (Q .nx)
  | some (.sh d) => WpO (asgN i (.sh d) r) (Q .nx)
  | _ => False
def kRetV (i : Nat) (Q : Fl → Ro → Prop) (r : Ro) : Prop := match r[i]? with
  | some (.sh d) => Q (.ret (.sh d)) r
  | some (.lst ds) => Q (.ret (.lst ds)) (r.set i .non)
  | some (.dct t kvs) => Q (.ret (.dct t kvs)) (r.set i .non)
  | _ => False
def intAtR (r : Ro) (i : Nat) : Option Int := match r[i]? with
  | some (.sh (.int x)) => some x
  | _ => none
def kRaise (c : Nat) (f : String) (E : XP) (d : PyData) (r : Ro) : Prop := E c [(.str (Str.ofString f), d)] r
/-- what a try wants of an error -/
def eTry (cs : List Nat) (i x : Nat) (Q : Fl → Ro → Prop) (E : XP) (c : Nat) (fs : List (PyData × PyData)) (r : Ro) : Prop := (c ∈ cs → i < r.length ∧ WpO (asgN x (.sh (excD c fs)) (r.set i .non)) (Q .nx)) ∧ (c ∉ cs → E c fs r)
end
section
variable {fu : Nat} {Phi : Nat → Ro → FR} {Q : Fl → Ro → Prop} {E : XP} {r : Ro}
theorem wp_exs_nil : Wp (exs fu Phi .nil r) Q E ↔ Q .nx r := by simp only [exs, wp_ok]
theorem wp_exs_cons {s : CS} {ss : CSs} : Wp (exs fu Phi (.cons s ss) r) Q E ↔ Wp (ex fu Phi s r) (kSeq fu Phi ss Q E) E := by
  simp only [exs]
  cases ex fu Phi s r with
  | ok f r1 => cases f <;> first | rfl | (simp only [wp_ok, wp_ex, wp_bad, wpf_ret, wpf_ex, wpf_bad, WpO, WpP, R.bind, R.sh, R.truth]; done) | (simp only [wp_ok, wp_ex, wp_bad, wpf_ret, wpf_ex, wpf_bad, WpO, WpP, R.bind, R.sh, R.truth]; rfl) | (simp [wp_ok, wp_ex, wp_bad, wpf_ret, wpf_ex, wpf_bad, WpO, WpP, R.bind, R.sh, R.truth, toSh]; done)
  | _ => first | rfl | (simp only [wp_ok, wp_ex, wp_bad, wpf_ret, wpf_ex, wpf_bad, WpO, WpP, R.bind, R.sh, R.truth]; done) | (simp only [wp_ok, wp_ex, wp_bad, wpf_ret, wpf_ex, wpf_bad, WpO, WpP, R.bind, R.sh, R.truth]; rfl) | (simp [wp_ok, wp_ex, wp_bad, wpf_ret, wpf_ex, wpf_bad, WpO, WpP, R.bind, R.sh, R.truth, toSh]; done)
theorem kSeq_nx {ss : CSs} : kSeq fu Phi ss Q E .nx r ↔ Wp (exs fu Phi ss r) Q E := Iff.rfl
theorem kSeq_ret {ss : CSs} {s : Slot} : kSeq fu Phi ss Q E (.ret s) r ↔ Q (.ret s) r := Iff.rfl
theorem asgN_of {x : R Slot} {i : Nat} : Wp (x.bind fun s r1 => match asgN i s r1 with | some r2 => .ok .nx r2 | none => .bad) Q E ↔ Wp x (kSet i Q) E := by
  rw [Wp.bind]
  cases x with
  | ok s r1 =>
    simp only [wp_ok, kSet]
    cases asgN i s r1 <;> first | rfl | (simp only [wp_ok, wp_ex, wp_bad, wpf_ret, wpf_ex, wpf_bad, WpO, WpP, R.bind, R.sh, R.truth]; done) | (simp only [wp_ok, wp_ex, wp_bad, wpf_ret, wpf_ex, wpf_bad, WpO, WpP, R.bind, R.sh, R.truth]; rfl) | (simp [wp_ok, wp_ex, wp_bad, wpf_ret, wpf_ex, wpf_bad, WpO, WpP, R.bind, R.sh, R.truth, toSh]; done)
  | _ => first | rfl | (simp only [wp_ok, wp_ex, wp_bad, wpf_ret, wpf_ex, wpf_bad, WpO, WpP, R.bind, R.sh, R.truth]; done) | (simp only [wp_ok, wp_ex, wp_bad, wpf_ret, wpf_ex, wpf_bad, WpO, WpP, R.bind, R.sh, R.truth]; rfl) | (simp [wp_ok, wp_ex, wp_bad, wpf_ret, wpf_ex, wpf_bad, WpO, WpP, R.bind, R.sh, R.truth, toSh]; done)
theorem wp_set {i : Nat} {c : CE} : Wp (ex fu Phi (.set (.name i) c) r) Q E ↔ Wp (ev Phi c r) (kSet i Q) E := by simp only [ex]; exact asgN_of
theorem wp_setLc {i : Nat} {c : CE} : Wp (ex fu Phi (.setLc i c) r) Q E ↔ Wp (ev Phi c r) (kSet i Q) E := by simp only [ex]; exact asgN_of
theorem wp_setT {ts : CTs} {c : CE} : Wp (ex fu Phi (.set (.tup ts) c) r) Q E ↔ Wp (ev Phi c r) (kSh (kAsg (.tup ts) Q)) E := by
  simp only [ex, Wp.bind, Wp.sh]
  cases ev Phi c r with
  | ok s r1 =>
    simp only [wp_ok, kSh]
    cases toSh s with
    | none => first | rfl | (simp only [wp_ok, wp_ex, wp_bad, wpf_ret, wpf_ex, wpf_bad, WpO, WpP, R.bind, R.sh, R.truth]; done) | (simp only [wp_ok, wp_ex, wp_bad, wpf_ret, wpf_ex, wpf_bad, WpO, WpP, R.bind, R.sh, R.truth]; rfl) | (simp [wp_ok, wp_ex, wp_bad, wpf_ret, wpf_ex, wpf_bad, WpO, WpP, R.bind, R.sh, R.truth, toSh]; done)
    | some d =>
      simp only [WpO, kAsg]
      cases asg (.tup ts) d r1 <;> first | rfl | (simp only [wp_ok, wp_ex, wp_bad, wpf_ret, wpf_ex, wpf_bad, WpO, WpP, R.bind, R.sh, R.truth]; done) | (simp only [wp_ok, wp_ex, wp_bad, wpf_ret, wpf_ex, wpf_bad, WpO, WpP, R.bind, R.sh, R.truth]; rfl) | (simp [wp_ok, wp_ex, wp_bad, wpf_ret, wpf_ex, wpf_bad, WpO, WpP, R.bind, R.sh, R.truth, toSh]; done)
  | _ => first | rfl | (simp only [wp_ok, wp_ex, wp_bad, wpf_ret, wpf_ex, wpf_bad, WpO, WpP, R.bind, R.sh, R.truth]; done) | (simp only [wp_ok, wp_ex, wp_bad, wpf_ret, wpf_ex, wpf_bad, WpO, WpP, R.bind, R.sh, R.truth]; rfl) | (simp [wp_ok, wp_ex, wp_bad, wpf_ret, wpf_ex, wpf_bad, WpO, WpP, R.bind, R.sh, R.truth, toSh]; done)
theorem wp_move {i j : Nat} : Wp (ex fu Phi (.move i j) r) Q E ↔ kMove i j Q r := by
  simp only [ex, kMove]
  cases r[j]? with
  | none => first | rfl | (simp only [wp_ok, wp_ex, wp_bad, wpf_ret, wpf_ex, wpf_bad, WpO, WpP, R.bind, R.sh, R.truth]; done) | (simp only [wp_ok, wp_ex, wp_bad, wpf_ret, wpf_ex, wpf_bad, WpO, WpP, R.bind, R.sh, R.truth]; rfl) | (simp [wp_ok, wp_ex, wp_bad, wpf_ret, wpf_ex, wpf_bad, WpO, WpP, R.bind, R.sh, R.truth, toSh]; done)
  | some s =>
    cases s with
    | non => first | rfl | (simp only [wp_ok, wp_ex, wp_bad, wpf_ret, wpf_ex, wpf_bad, WpO, WpP, R.bind, R.sh, R.truth]; done) | (simp only [wp_ok, wp_ex, wp_bad, wpf_ret, wpf_ex, wpf_bad, WpO, WpP, R.bind, R.sh, R.truth]; rfl) | (simp [wp_ok, wp_ex, wp_bad, wpf_ret, wpf_ex, wpf_bad, WpO, WpP, R.bind, R.sh, R.truth, toSh]; done)
    | sh d => simp only; cases asgN i (.sh d) r <;> first | rfl | (simp only [wp_ok, wp_ex, wp_bad, wpf_ret, wpf_ex, wpf_bad, WpO, WpP, R.bind, R.sh, R.truth]; done) | (simp only [wp_ok, wp_ex, wp_bad, wpf_ret, wpf_ex, wpf_bad, WpO, WpP, R.bind, R.sh, R.truth]; rfl) | (simp [wp_ok, wp_ex, wp_bad, wpf_ret, wpf_ex, wpf_bad, WpO, WpP, R.bind, R.sh, R.truth, toSh]; done)
    | lst ds => simp only; cases asgN i (.lst ds) (r.set j .non) <;> first | rfl | (simp only [wp_ok, wp_ex, wp_bad, wpf_ret, wpf_ex, wpf_bad, WpO, WpP, R.bind, R.sh, R.truth]; done) | (simp only [wp_ok, wp_ex, wp_bad, wpf_ret, wpf_ex, wpf_bad, WpO, WpP, R.bind, R.sh, R.truth]; rfl) | (simp [wp_ok, wp_ex, wp_bad, wpf_ret, wpf_ex, wpf_bad, WpO, WpP, R.bind, R.sh, R.truth, toSh]; done)
    | dct t kvs => simp only; cases asgN i (.dct t kvs) (r.set j .non) <;> first | rfl | (simp only [wp_ok, wp_ex, wp_bad, wpf_ret, wpf_ex, wpf_bad, WpO, WpP, R.bind, R.sh, R.truth]; done) | (simp only [wp_ok, wp_ex, wp_bad, wpf_ret, wpf_ex, wpf_bad, WpO, WpP, R.bind, R.sh, R.truth]; rfl) | (simp [wp_ok, wp_ex, wp_bad, wpf_ret, wpf_ex, wpf_bad, WpO, WpP, R.bind, R.sh, R.truth, toSh]; done)
theorem wp_aug {i : Nat} {o : Op} {c : CE} : Wp (ex fu Phi (.aug i o c) r) Q E ↔ WpO (intAtR r i) fun x => Wp (ev Phi c r) (kSh (kAug i o (.int x) Q)) E := by
  have hc : (∃ x, r[i]? = some (.sh (.int x))) ∨ intAtR r i = none := by
    unfold intAtR
    cases r[i]? with
    | none => exact .inr rfl
    | some s => cases s with
      | sh d => cases d <;> first | exact .inr rfl | exact .inl ⟨_, rfl⟩
      | _ => exact .inr rfl
  rcases hc with ⟨x, h⟩ | h
  case inr =>
    rw [h]
    simp only [ex, WpO]
    unfold intAtR at h
    split <;> simp_all [wp_bad]
  have h2 : intAtR r i = some x := by unfold intAtR; rw [h]
  rw [h2]
  simp only [WpO]
  simp only [ex, h, Wp.bind, Wp.sh]
  cases ev Phi c r with
  | ok s r1 =>
    simp only [wp_ok, kSh]
    cases toSh s with
    | none => first | rfl | (simp only [wp_ok, wp_ex, wp_bad, wpf_ret, wpf_ex, wpf_bad, WpO, WpP, R.bind, R.sh, R.truth]; done) | (simp only [wp_ok, wp_ex, wp_bad, wpf_ret, wpf_ex, wpf_bad, WpO, WpP, R.bind, R.sh, R.truth]; rfl) | (simp [wp_ok, wp_ex, wp_bad, wpf_ret, wpf_ex, wpf_bad, WpO, WpP, R.bind, R.sh, R.truth, toSh]; done)
    | some d =>
      simp only [WpO, kAug]
      cases prim o [.int x, d] with
      | none => first | rfl | (simp only [wp_ok, wp_ex, wp_bad, wpf_ret, wpf_ex, wpf_bad, WpO, WpP, R.bind, R.sh, R.truth]; done) | (simp only [wp_ok, wp_ex, wp_bad, wpf_ret, wpf_ex, wpf_bad, WpO, WpP, R.bind, R.sh, R.truth]; rfl) | (simp [wp_ok, wp_ex, wp_bad, wpf_ret, wpf_ex, wpf_bad, WpO, WpP, R.bind, R.sh, R.truth, toSh]; done)
      | some t =>
        simp only [WpP, kSet]
        cases asgN i t r1 <;> first | rfl | (simp only [wp_ok, wp_ex, wp_bad, wpf_ret, wpf_ex, wpf_bad, WpO, WpP, R.bind, R.sh, R.truth]; done) | (simp only [wp_ok, wp_ex, wp_bad, wpf_ret, wpf_ex, wpf_bad, WpO, WpP, R.bind, R.sh, R.truth]; rfl) | (simp [wp_ok, wp_ex, wp_bad, wpf_ret, wpf_ex, wpf_bad, WpO, WpP, R.bind, R.sh, R.truth, toSh]; done)
  | _ => first | rfl | (simp only [wp_ok, wp_ex, wp_bad, wpf_ret, wpf_ex, wpf_bad, WpO, WpP, R.bind, R.sh, R.truth]; done) | (simp only [wp_ok, wp_ex, wp_bad, wpf_ret, wpf_ex, wpf_bad, WpO, WpP, R.bind, R.sh, R.truth]; rfl) | (simp [wp_ok, wp_ex, wp_bad, wpf_ret, wpf_ex, wpf_bad, WpO, WpP, R.bind, R.sh, R.truth, toSh]; done)
theorem wp_ite {c : CE} {a b : CSs} : Wp (ex fu Phi (.ite c a b) r) Q E ↔ Wp (ev Phi c r) (kTr (kIte fu Phi a b Q E)) E := by
  simp only [ex, Wp.bind, Wp.truth]
  cases ev Phi c r with
  | ok s r1 =>
    simp only [wp_ok, kTr]
    cases s with
    | sh x => cases x with
      | bool b => cases b <;> simp [kAnd, kOr, kIte, wp_ok, wp_ex, wp_bad]
      | _ => first | rfl | (simp only [wp_ok, wp_ex, wp_bad, wpf_ret, wpf_ex, wpf_bad, WpO, WpP, R.bind, R.sh, R.truth]; done) | (simp only [wp_ok, wp_ex, wp_bad, wpf_ret, wpf_ex, wpf_bad, WpO, WpP, R.bind, R.sh, R.truth]; rfl) | (simp [wp_ok, wp_ex, wp_bad, wpf_ret, wpf_ex, wpf_bad, WpO, WpP, R.bind, R.sh, R.truth, toSh]; done)
    | _ => first | rfl | (simp only [wp_ok, wp_ex, wp_bad, wpf_ret, wpf_ex, wpf_bad, WpO, WpP, R.bind, R.sh, R.truth]; done) | (simp only [wp_ok, wp_ex, wp_bad, wpf_ret, wpf_ex, wpf_bad, WpO, WpP, R.bind, R.sh, R.truth]; rfl) | (simp [wp_ok, wp_ex, wp_bad, wpf_ret, wpf_ex, wpf_bad, WpO, WpP, R.bind, R.sh, R.truth, toSh]; done)
  | _ => first | rfl | (simp only [wp_ok, wp_ex, wp_bad, wpf_ret, wpf_ex, wpf_bad, WpO, WpP, R.bind, R.sh, R.truth]; done) | (simp only [wp_ok, wp_ex, wp_bad, wpf_ret, wpf_ex, wpf_bad, WpO, WpP, R.bind, R.sh, R.truth]; rfl) | (simp [wp_ok, wp_ex, wp_bad, wpf_ret, wpf_ex, wpf_bad, WpO, WpP, R.bind, R.sh, R.truth, toSh]; done)
theorem wp_for {t : CT} {it : CI} {b : CSs} : Wp (ex fu Phi (.for_ t it b) r) Q E ↔ Wp (evI Phi it r) (kFor fu Phi t b Q E) E := by
  simp only [ex, Wp.bind]; (first | rfl | (simp only [wp_ok, wp_ex, wp_bad, wpf_ret, wpf_ex, wpf_bad, WpO, WpP, R.bind, R.sh, R.truth]; done) | (simp only [wp_ok, wp_ex, wp_bad, wpf_ret, wpf_ex, wpf_bad, WpO, WpP, R.bind, R.sh, R.truth]; rfl) | (simp [wp_ok, wp_ex, wp_bad, wpf_ret, wpf_ex, wpf_bad, WpO, WpP, R.bind, R.sh, R.truth, toSh]; done))
theorem wp_while {c : CE} {b : CSs} : Wp (ex fu Phi (.while_ c b) r) Q E ↔ Wp (loop (fun q => (ev Phi c q).truth) (fun q => exs fu Phi b q) fu r) Q E := by
  simp only [ex]
theorem wp_retV {i : Nat} : Wp (ex fu Phi (.ret (.var i)) r) Q E ↔ kRetV i Q r := by
  simp only [ex, kRetV]
  cases r[i]? with
  | none => first | rfl | (simp only [wp_ok, wp_ex, wp_bad, wpf_ret, wpf_ex, wpf_bad, WpO, WpP, R.bind, R.sh, R.truth]; done) | (simp only [wp_ok, wp_ex, wp_bad, wpf_ret, wpf_ex, wpf_bad, WpO, WpP, R.bind, R.sh, R.truth]; rfl) | (simp [wp_ok, wp_ex, wp_bad, wpf_ret, wpf_ex, wpf_bad, WpO, WpP, R.bind, R.sh, R.truth, toSh]; done)
  | some s => cases s <;> first | rfl | (simp only [wp_ok, wp_ex, wp_bad, wpf_ret, wpf_ex, wpf_bad, WpO, WpP, R.bind, R.sh, R.truth]; done) | (simp only [wp_ok, wp_ex, wp_bad, wpf_ret, wpf_ex, wpf_bad, WpO, WpP, R.bind, R.sh, R.truth]; rfl) | (simp [wp_ok, wp_ex, wp_bad, wpf_ret, wpf_ex, wpf_bad, WpO, WpP, R.bind, R.sh, R.truth, toSh]; done)
theorem ret_gen {c : CE} (e : ex fu Phi (.ret c) r = (ev Phi c r).bind fun s r1 => .ok (.ret s) r1) : Wp (ex fu Phi (.ret c) r) Q E ↔ Wp (ev Phi c r) (kRet Q) E := by rw [e, Wp.bind]; (first | rfl | (simp only [wp_ok, wp_ex, wp_bad, wpf_ret, wpf_ex, wpf_bad, WpO, WpP, R.bind, R.sh, R.truth]; done) | (simp only [wp_ok, wp_ex, wp_bad, wpf_ret, wpf_ex, wpf_bad, WpO, WpP, R.bind, R.sh, R.truth]; rfl) | (simp [wp_ok, wp_ex, wp_bad, wpf_ret, wpf_ex, wpf_bad, WpO, WpP, R.bind, R.sh, R.truth, toSh]; done))
theorem wp_ret_cst {d : PyData} : Wp (ex fu Phi (.ret (.cst d)) r) Q E ↔ Q (.ret (.sh d)) r := by simp only [ex, ev, R.bind, wp_ok, wp_ex, wp_bad]
theorem wp_ret_op {o : Op} {es : CEs} : Wp (ex fu Phi (.ret (.op o es)) r) Q E ↔ Wp (ev Phi (.op o es) r) (kRet Q) E := ret_gen (by simp only [ex])
theorem wp_ret_xop {o : Op} {es : CEs} : Wp (ex fu Phi (.ret (.xop o es)) r) Q E ↔ Wp (ev Phi (.xop o es) r) (kRet Q) E := ret_gen (by simp only [ex])
theorem wp_ret_meth {o : Op} {i : Nat} {es : CEs} : Wp (ex fu Phi (.ret (.meth o i es)) r) Q E ↔ Wp (ev Phi (.meth o i es) r) (kRet Q) E := ret_gen (by simp only [ex])
theorem wp_ret_tup {es : CEs} : Wp (ex fu Phi (.ret (.tup es)) r) Q E ↔ Wp (ev Phi (.tup es) r) (kRet Q) E := ret_gen (by simp only [ex])
theorem wp_ret_lst {es : CEs} : Wp (ex fu Phi (.ret (.lst es)) r) Q E ↔ Wp (ev Phi (.lst es) r) (kRet Q) E := ret_gen (by simp only [ex])
theorem wp_ret_not {c : CE} : Wp (ex fu Phi (.ret (.not c)) r) Q E ↔ Wp (ev Phi (.not c) r) (kRet Q) E := ret_gen (by simp only [ex])
theorem wp_ret_and {c d : CE} : Wp (ex fu Phi (.ret (.and c d)) r) Q E ↔ Wp (ev Phi (.and c d) r) (kRet Q) E := ret_gen (by simp only [ex])
theorem wp_ret_or {c d : CE} : Wp (ex fu Phi (.ret (.or c d)) r) Q E ↔ Wp (ev Phi (.or c d) r) (kRet Q) E := ret_gen (by simp only [ex])
theorem wp_ret_chain {o p : Op} {a b c : CE} : Wp (ex fu Phi (.ret (.chain o p a b c)) r) Q E ↔ Wp (ev Phi (.chain o p a b c) r) (kRet Q) E := ret_gen (by simp only [ex])
theorem wp_ret_lc {elt : CE} {tg : CT} {it : CI} {cond : CEs} {own : List (Str × Nat)} : Wp (ex fu Phi (.ret (.lc elt tg it cond own)) r) Q E ↔ Wp (ev Phi (.lc elt tg it cond own) r) (kRet Q) E := ret_gen (by simp only [ex])
theorem wp_ret_call {f : Nat} {es : CEs} : Wp (ex fu Phi (.ret (.call f es)) r) Q E ↔ Wp (ev Phi (.call f es) r) (kRet Q) E := ret_gen (by simp only [ex])
theorem wp_ret_pop {i : Nat} {c : CE} : Wp (ex fu Phi (.ret (.pop i c)) r) Q E ↔ Wp (ev Phi (.pop i c) r) (kRet Q) E := ret_gen (by simp only [ex])
theorem wp_ret_sl2 {a lo hi : CE} : Wp (ex fu Phi (.ret (.sl2 a lo hi)) r) Q E ↔ Wp (ev Phi (.sl2 a lo hi) r) (kRet Q) E := ret_gen (by simp only [ex])
theorem wp_ret_dnew {t : Bool} : Wp (ex fu Phi (.ret (.dnew t)) r) Q E ↔ Q (.ret (.dct t [])) r := by simp only [ex, ev, R.bind, wp_ok, wp_ex, wp_bad]
theorem wp_expr {c : CE} : Wp (ex fu Phi (.expr c) r) Q E ↔ Wp (ev Phi c r) (kDrop Q) E := by simp only [ex, Wp.bind]; (first | rfl | (simp only [wp_ok, wp_ex, wp_bad, wpf_ret, wpf_ex, wpf_bad, WpO, WpP, R.bind, R.sh, R.truth]; done) | (simp only [wp_ok, wp_ex, wp_bad, wpf_ret, wpf_ex, wpf_bad, WpO, WpP, R.bind, R.sh, R.truth]; rfl) | (simp [wp_ok, wp_ex, wp_bad, wpf_ret, wpf_ex, wpf_bad, WpO, WpP, R.bind, R.sh, R.truth, toSh]; done))
theorem wp_append {i : Nat} {c : CE} : Wp (ex fu Phi (.append i c) r) Q E ↔ isLs r i = true ∧ Wp (ev Phi c r) (kSh (kApp i Q)) E := by
  rcases isL_cases r i with ⟨ds, h⟩ | h
  case inr =>
    simp only [h, Bool.false_eq_true, false_and, iff_false]
    simp only [ex]
    unfold isLs at h
    split <;> simp_all [wp_bad]
  have h2 : isLs r i = true := by unfold isLs; rw [h]
  simp only [h2, true_and]
  simp only [ex, h, Wp.bind, Wp.sh]
  cases ev Phi c r with
  | ok s r1 =>
    simp only [wp_ok, kSh]
    cases toSh s with
    | none => first | rfl | (simp only [wp_ok, wp_ex, wp_bad, wpf_ret, wpf_ex, wpf_bad, WpO, WpP, R.bind, R.sh, R.truth]; done) | (simp only [wp_ok, wp_ex, wp_bad, wpf_ret, wpf_ex, wpf_bad, WpO, WpP, R.bind, R.sh, R.truth]; rfl) | (simp [wp_ok, wp_ex, wp_bad, wpf_ret, wpf_ex, wpf_bad, WpO, WpP, R.bind, R.sh, R.truth, toSh]; done)
    | some d =>
      simp only [WpO, kApp]
      cases r1[i]? with
      | none => first | rfl | (simp only [wp_ok, wp_ex, wp_bad, wpf_ret, wpf_ex, wpf_bad, WpO, WpP, R.bind, R.sh, R.truth]; done) | (simp only [wp_ok, wp_ex, wp_bad, wpf_ret, wpf_ex, wpf_bad, WpO, WpP, R.bind, R.sh, R.truth]; rfl) | (simp [wp_ok, wp_ex, wp_bad, wpf_ret, wpf_ex, wpf_bad, WpO, WpP, R.bind, R.sh, R.truth, toSh]; done)
      | some t => cases t with
        | lst es =>
          simp only
          by_cases hl : es.length < 16777216
          · simp [hl, wp_ok, wp_ex, wp_bad]
          · simp [hl, wp_ok, wp_ex, wp_bad]
        | _ => first | rfl | (simp only [wp_ok, wp_ex, wp_bad, wpf_ret, wpf_ex, wpf_bad, WpO, WpP, R.bind, R.sh, R.truth]; done) | (simp only [wp_ok, wp_ex, wp_bad, wpf_ret, wpf_ex, wpf_bad, WpO, WpP, R.bind, R.sh, R.truth]; rfl) | (simp [wp_ok, wp_ex, wp_bad, wpf_ret, wpf_ex, wpf_bad, WpO, WpP, R.bind, R.sh, R.truth, toSh]; done)
  | _ => first | rfl | (simp only [wp_ok, wp_ex, wp_bad, wpf_ret, wpf_ex, wpf_bad, WpO, WpP, R.bind, R.sh, R.truth]; done) | (simp only [wp_ok, wp_ex, wp_bad, wpf_ret, wpf_ex, wpf_bad, WpO, WpP, R.bind, R.sh, R.truth]; rfl) | (simp [wp_ok, wp_ex, wp_bad, wpf_ret, wpf_ex, wpf_bad, WpO, WpP, R.bind, R.sh, R.truth, toSh]; done)
theorem wp_extend {i : Nat} {c : CE} : Wp (ex fu Phi (.extend i c) r) Q E ↔ isLs r i = true ∧ Wp (ev Phi c r) (kSh (kExt i Q)) E := by
  rcases isL_cases r i with ⟨ds, h⟩ | h
  case inr =>
    simp only [h, Bool.false_eq_true, false_and, iff_false]
    simp only [ex]
    unfold isLs at h
    split <;> simp_all [wp_bad]
  have h2 : isLs r i = true := by unfold isLs; rw [h]
  simp only [h2, true_and]
  simp only [ex, h, Wp.bind, Wp.sh]
  cases ev Phi c r with
  | ok s r1 =>
    simp only [wp_ok, kSh]
    cases toSh s with
    | none => first | rfl | (simp only [wp_ok, wp_ex, wp_bad, wpf_ret, wpf_ex, wpf_bad, WpO, WpP, R.bind, R.sh, R.truth]; done) | (simp only [wp_ok, wp_ex, wp_bad, wpf_ret, wpf_ex, wpf_bad, WpO, WpP, R.bind, R.sh, R.truth]; rfl) | (simp [wp_ok, wp_ex, wp_bad, wpf_ret, wpf_ex, wpf_bad, WpO, WpP, R.bind, R.sh, R.truth, toSh]; done)
    | some d =>
      simp only [WpO, kExt]
      cases r1[i]? with
      | none => first | rfl | (simp only [wp_ok, wp_ex, wp_bad, wpf_ret, wpf_ex, wpf_bad, WpO, WpP, R.bind, R.sh, R.truth]; done) | (simp only [wp_ok, wp_ex, wp_bad, wpf_ret, wpf_ex, wpf_bad, WpO, WpP, R.bind, R.sh, R.truth]; rfl) | (simp [wp_ok, wp_ex, wp_bad, wpf_ret, wpf_ex, wpf_bad, WpO, WpP, R.bind, R.sh, R.truth, toSh]; done)
      | some t => cases t with
        | lst es => cases d with
          | list ys =>
            simp only
            by_cases hl : small (es.length + ys.length) = true
            · simp [hl, wp_ok, wp_ex, wp_bad]
            · simp [hl, wp_ok, wp_ex, wp_bad]
          | _ => first | rfl | (simp only [wp_ok, wp_ex, wp_bad, wpf_ret, wpf_ex, wpf_bad, WpO, WpP, R.bind, R.sh, R.truth]; done) | (simp only [wp_ok, wp_ex, wp_bad, wpf_ret, wpf_ex, wpf_bad, WpO, WpP, R.bind, R.sh, R.truth]; rfl) | (simp [wp_ok, wp_ex, wp_bad, wpf_ret, wpf_ex, wpf_bad, WpO, WpP, R.bind, R.sh, R.truth, toSh]; done)
        | _ => first | rfl | (simp only [wp_ok, wp_ex, wp_bad, wpf_ret, wpf_ex, wpf_bad, WpO, WpP, R.bind, R.sh, R.truth]; done) | (simp only [wp_ok, wp_ex, wp_bad, wpf_ret, wpf_ex, wpf_bad, WpO, WpP, R.bind, R.sh, R.truth]; rfl) | (simp [wp_ok, wp_ex, wp_bad, wpf_ret, wpf_ex, wpf_bad, WpO, WpP, R.bind, R.sh, R.truth, toSh]; done)
  | _ => first | rfl | (simp only [wp_ok, wp_ex, wp_bad, wpf_ret, wpf_ex, wpf_bad, WpO, WpP, R.bind, R.sh, R.truth]; done) | (simp only [wp_ok, wp_ex, wp_bad, wpf_ret, wpf_ex, wpf_bad, WpO, WpP, R.bind, R.sh, R.truth]; rfl) | (simp [wp_ok, wp_ex, wp_bad, wpf_ret, wpf_ex, wpf_bad, WpO, WpP, R.bind, R.sh, R.truth, toSh]; done)
theorem wp_setItem {i : Nat} {k c : CE} : Wp (ex fu Phi (.setItem i k c) r) Q E ↔ Wp (ev Phi c r) (kSh (kSetI Phi i k Q E)) E := by
  simp only [ex, Wp.bind, Wp.sh]
  cases ev Phi c r with
  | ok s r1 =>
    simp only [wp_ok, kSh]
    cases toSh s with
    | none => first | rfl | (simp only [wp_ok, wp_ex, wp_bad, wpf_ret, wpf_ex, wpf_bad, WpO, WpP, R.bind, R.sh, R.truth]; done) | (simp only [wp_ok, wp_ex, wp_bad, wpf_ret, wpf_ex, wpf_bad, WpO, WpP, R.bind, R.sh, R.truth]; rfl) | (simp [wp_ok, wp_ex, wp_bad, wpf_ret, wpf_ex, wpf_bad, WpO, WpP, R.bind, R.sh, R.truth, toSh]; done)
    | some d =>
      simp only [WpO, kSetI]
      cases r1[i]? with
      | none => first | rfl | (simp only [wp_ok, wp_ex, wp_bad, wpf_ret, wpf_ex, wpf_bad, WpO, WpP, R.bind, R.sh, R.truth]; done) | (simp only [wp_ok, wp_ex, wp_bad, wpf_ret, wpf_ex, wpf_bad, WpO, WpP, R.bind, R.sh, R.truth]; rfl) | (simp [wp_ok, wp_ex, wp_bad, wpf_ret, wpf_ex, wpf_bad, WpO, WpP, R.bind, R.sh, R.truth, toSh]; done)
      | some t => cases t with
        | lst es =>
          simp only [Wp.bind, Wp.sh]
          cases ev Phi k r1 with
          | ok s2 r2 =>
            simp only [wp_ok, kSh]
            cases toSh s2 with
            | none => first | rfl | (simp only [wp_ok, wp_ex, wp_bad, wpf_ret, wpf_ex, wpf_bad, WpO, WpP, R.bind, R.sh, R.truth]; done) | (simp only [wp_ok, wp_ex, wp_bad, wpf_ret, wpf_ex, wpf_bad, WpO, WpP, R.bind, R.sh, R.truth]; rfl) | (simp [wp_ok, wp_ex, wp_bad, wpf_ret, wpf_ex, wpf_bad, WpO, WpP, R.bind, R.sh, R.truth, toSh]; done)
            | some z =>
              simp only [WpO, kSetL]
              cases z with
              | int n =>
                cases r2[i]? with
                | none => first | rfl | (simp only [wp_ok, wp_ex, wp_bad, wpf_ret, wpf_ex, wpf_bad, WpO, WpP, R.bind, R.sh, R.truth]; done) | (simp only [wp_ok, wp_ex, wp_bad, wpf_ret, wpf_ex, wpf_bad, WpO, WpP, R.bind, R.sh, R.truth]; rfl) | (simp [wp_ok, wp_ex, wp_bad, wpf_ret, wpf_ex, wpf_bad, WpO, WpP, R.bind, R.sh, R.truth, toSh]; done)
                | some t2 => cases t2 with
                  | lst es2 => simp only; cases ixN es2.length n <;> first | rfl | (simp only [wp_ok, wp_ex, wp_bad, wpf_ret, wpf_ex, wpf_bad, WpO, WpP, R.bind, R.sh, R.truth]; done) | (simp only [wp_ok, wp_ex, wp_bad, wpf_ret, wpf_ex, wpf_bad, WpO, WpP, R.bind, R.sh, R.truth]; rfl) | (simp [wp_ok, wp_ex, wp_bad, wpf_ret, wpf_ex, wpf_bad, WpO, WpP, R.bind, R.sh, R.truth, toSh]; done)
                  | _ => first | rfl | (simp only [wp_ok, wp_ex, wp_bad, wpf_ret, wpf_ex, wpf_bad, WpO, WpP, R.bind, R.sh, R.truth]; done) | (simp only [wp_ok, wp_ex, wp_bad, wpf_ret, wpf_ex, wpf_bad, WpO, WpP, R.bind, R.sh, R.truth]; rfl) | (simp [wp_ok, wp_ex, wp_bad, wpf_ret, wpf_ex, wpf_bad, WpO, WpP, R.bind, R.sh, R.truth, toSh]; done)
              | _ => first | rfl | (simp only [wp_ok, wp_ex, wp_bad, wpf_ret, wpf_ex, wpf_bad, WpO, WpP, R.bind, R.sh, R.truth]; done) | (simp only [wp_ok, wp_ex, wp_bad, wpf_ret, wpf_ex, wpf_bad, WpO, WpP, R.bind, R.sh, R.truth]; rfl) | (simp [wp_ok, wp_ex, wp_bad, wpf_ret, wpf_ex, wpf_bad, WpO, WpP, R.bind, R.sh, R.truth, toSh]; done)
          | _ => first | rfl | (simp only [wp_ok, wp_ex, wp_bad, wpf_ret, wpf_ex, wpf_bad, WpO, WpP, R.bind, R.sh, R.truth]; done) | (simp only [wp_ok, wp_ex, wp_bad, wpf_ret, wpf_ex, wpf_bad, WpO, WpP, R.bind, R.sh, R.truth]; rfl) | (simp [wp_ok, wp_ex, wp_bad, wpf_ret, wpf_ex, wpf_bad, WpO, WpP, R.bind, R.sh, R.truth, toSh]; done)
        | dct t kvs =>
          simp only [Wp.bind, Wp.sh]
          cases ev Phi k r1 with
          | ok s2 r2 =>
            simp only [wp_ok, kSh]
            cases toSh s2 with
            | none => first | rfl | (simp only [wp_ok, wp_ex, wp_bad, wpf_ret, wpf_ex, wpf_bad, WpO, WpP, R.bind, R.sh, R.truth]; done) | (simp only [wp_ok, wp_ex, wp_bad, wpf_ret, wpf_ex, wpf_bad, WpO, WpP, R.bind, R.sh, R.truth]; rfl) | (simp [wp_ok, wp_ex, wp_bad, wpf_ret, wpf_ex, wpf_bad, WpO, WpP, R.bind, R.sh, R.truth, toSh]; done)
            | some z =>
              simp only [WpO, kSetD]
              cases r2[i]? with
              | none => first | rfl | (simp only [wp_ok, wp_ex, wp_bad, wpf_ret, wpf_ex, wpf_bad, WpO, WpP, R.bind, R.sh, R.truth]; done) | (simp only [wp_ok, wp_ex, wp_bad, wpf_ret, wpf_ex, wpf_bad, WpO, WpP, R.bind, R.sh, R.truth]; rfl) | (simp [wp_ok, wp_ex, wp_bad, wpf_ret, wpf_ex, wpf_bad, WpO, WpP, R.bind, R.sh, R.truth, toSh]; done)
              | some t2 => cases t2 with
                | dct t3 kvs2 =>
                  simp only
                  by_cases hl : (isKey t3 z && decide (kvs2.length < 16777216)) = true
                  · rw [if_pos hl]
                    simp only [Bool.and_eq_true, decide_eq_true_eq] at hl
                    simp [hl, wp_ok, wp_ex, wp_bad]
                  · rw [if_neg hl]
                    simp only [Bool.and_eq_true, decide_eq_true_eq] at hl
                    simp [hl, wp_ok, wp_ex, wp_bad]
                | _ => first | rfl | (simp only [wp_ok, wp_ex, wp_bad, wpf_ret, wpf_ex, wpf_bad, WpO, WpP, R.bind, R.sh, R.truth]; done) | (simp only [wp_ok, wp_ex, wp_bad, wpf_ret, wpf_ex, wpf_bad, WpO, WpP, R.bind, R.sh, R.truth]; rfl) | (simp [wp_ok, wp_ex, wp_bad, wpf_ret, wpf_ex, wpf_bad, WpO, WpP, R.bind, R.sh, R.truth, toSh]; done)
          | _ => first | rfl | (simp only [wp_ok, wp_ex, wp_bad, wpf_ret, wpf_ex, wpf_bad, WpO, WpP, R.bind, R.sh, R.truth]; done) | (simp only [wp_ok, wp_ex, wp_bad, wpf_ret, wpf_ex, wpf_bad, WpO, WpP, R.bind, R.sh, R.truth]; rfl) | (simp [wp_ok, wp_ex, wp_bad, wpf_ret, wpf_ex, wpf_bad, WpO, WpP, R.bind, R.sh, R.truth, toSh]; done)
        | _ => first | rfl | (simp only [wp_ok, wp_ex, wp_bad, wpf_ret, wpf_ex, wpf_bad, WpO, WpP, R.bind, R.sh, R.truth]; done) | (simp only [wp_ok, wp_ex, wp_bad, wpf_ret, wpf_ex, wpf_bad, WpO, WpP, R.bind, R.sh, R.truth]; rfl) | (simp [wp_ok, wp_ex, wp_bad, wpf_ret, wpf_ex, wpf_bad, WpO, WpP, R.bind, R.sh, R.truth, toSh]; done)
  | _ => first | rfl | (simp only [wp_ok, wp_ex, wp_bad, wpf_ret, wpf_ex, wpf_bad, WpO, WpP, R.bind, R.sh, R.truth]; done) | (simp only [wp_ok, wp_ex, wp_bad, wpf_ret, wpf_ex, wpf_bad, WpO, WpP, R.bind, R.sh, R.truth]; rfl) | (simp [wp_ok, wp_ex, wp_bad, wpf_ret, wpf_ex, wpf_bad, WpO, WpP, R.bind, R.sh, R.truth, toSh]; done)
theorem wp_pass : Wp (ex fu Phi .pass r) Q E ↔ Q .nx r := by simp only [ex, wp_ok, wp_ex, wp_bad]
theorem wp_raise0 {c : Nat} {f : String} : Wp (ex fu Phi (.raise_ c f .nil) r) Q E ↔ E c [] r := by simp only [ex, wp_ok, wp_ex, wp_bad]
theorem wp_raise1 {c : Nat} {f : String} {e : CE} : Wp (ex fu Phi (.raise_ c f (.cons e .nil)) r) Q E ↔ Wp (ev Phi e r) (kSh (kRaise c f E)) E := by
  simp only [ex, Wp.bind, Wp.sh]
  cases ev Phi e r with
  | ok s r1 =>
    simp only [wp_ok, kSh]
    cases toSh s <;> first | rfl | (simp only [wp_ok, wp_ex, wp_bad, wpf_ret, wpf_ex, wpf_bad, WpO, WpP, R.bind, R.sh, R.truth]; done) | (simp only [wp_ok, wp_ex, wp_bad, wpf_ret, wpf_ex, wpf_bad, WpO, WpP, R.bind, R.sh, R.truth]; rfl) | (simp [wp_ok, wp_ex, wp_bad, wpf_ret, wpf_ex, wpf_bad, WpO, WpP, R.bind, R.sh, R.truth, toSh]; done)
  | _ => first | rfl | (simp only [wp_ok, wp_ex, wp_bad, wpf_ret, wpf_ex, wpf_bad, WpO, WpP, R.bind, R.sh, R.truth]; done) | (simp only [wp_ok, wp_ex, wp_bad, wpf_ret, wpf_ex, wpf_bad, WpO, WpP, R.bind, R.sh, R.truth]; rfl) | (simp [wp_ok, wp_ex, wp_bad, wpf_ret, wpf_ex, wpf_bad, WpO, WpP, R.bind, R.sh, R.truth, toSh]; done)
theorem wp_try {b : CSs} {cs : List Nat} {i x : Nat} : Wp (ex fu Phi (.try_ b cs i x) r) Q E ↔ Wp (exs fu Phi b r) Q (eTry cs i x Q E) := by
  simp only [ex]
  cases exs fu Phi b r with
  | ok f r1 => simp only [wp_ok]
  | bad => simp only [wp_bad]
  | ex c fs r1 =>
    simp only [wp_ex, eTry]
    by_cases h : c ∈ cs
    · simp only [h, decide_true, if_true, true_implies, not_true_eq_false, false_implies, and_true]
      by_cases hl : i < r1.length
      · simp only [hl, decide_true, if_true, true_and]
        cases asgN x (.sh (excD c fs)) (r1.set i .non) with
        | none => simp only [wp_bad, WpO]
        | some r2 => simp only [wp_ok, WpO]
      · simp only [hl, decide_false, Bool.false_eq_true, if_false, wp_bad, false_and]
    · simp only [h, decide_false, Bool.false_eq_true, if_false, wp_ex, false_implies, true_and, not_false_eq_true, true_implies]
/-! loops -/
theorem wp_turns {α : Type} {step : PyData → Ro → R Fl} (enc : α → PyData) (I : List α → Ro → Prop) (xs : List α) (h0 : I [] r)
    (hs : ∀ pre x post q, xs = pre ++ x :: post → I pre q → Wp (step (enc x) q) (fun f q' => match f with | .nx => I (pre ++ [x]) q' | .ret s => Q (.ret s) q') E)
    (he : ∀ q, I xs q → Q .nx q) : Wp (turns step (xs.map enc) r) Q E := by
  have key : ∀ (post pre : List α) (q : Ro), xs = pre ++ post → I pre q → Wp (turns step (post.map enc) q) Q E := by
    intro post
    induction post with
    | nil => intro pre q e h; rw [List.append_nil] at e; exact ⟨he q (by rw [e]; exact h)⟩
    | cons x post ih =>
      intro pre q e h
      have hx := hs pre x post q e h
      simp only [List.map_cons, turns]
      cases es : step (enc x) q with
      | bad => rw [es] at hx; exact hx.out.elim
      | ex c fs r1 => rw [es] at hx; exact ⟨hx.out⟩
      | ok f r1 =>
        rw [es] at hx
        cases f with
        | nx => exact ih (pre ++ [x]) r1 (by rw [e, List.append_assoc]; rfl) hx.out
        | ret s => exact ⟨hx.out⟩
  exact key xs [] r rfl h0
theorem wp_rng {step : PyData → Ro → R Fl} {lo : Int} {n : Nat} (I : Nat → Ro → Prop) (h0 : I 0 r)
    (hs : ∀ (k : Nat) q, k < n → I k q → Wp (step (.int (lo + (k : Int))) q) (fun f q' => match f with | .nx => I (k + 1) q' | .ret s => Q (.ret s) q') E)
    (he : ∀ q, I n q → Q .nx q) : Wp (turns step (rngL lo n) r) Q E := by
  refine wp_turns (fun (k : Nat) => PyData.int (lo + (k : Int))) (fun pre q => I pre.length q) (List.range n) h0 (fun pre x post q e h => ?_) (fun q h => he q (by simpa using h))
  have hx : x = pre.length ∧ pre.length < n := by
    have h1 : (List.range n)[pre.length]? = some x := by rw [e]; simp
    rw [List.getElem?_range] at h1
    · exact ⟨(Option.some.inj h1).symm, by have := congrArg List.length e; simp at this; omega⟩
    · have := congrArg List.length e; simp at this; omega
  obtain ⟨rfl, hl⟩ := hx
  have := hs pre.length q hl h
  rw [List.length_append]
  exact this
theorem wp_forStep {t : CT} {b : CSs} {d : PyData} : Wp (forStep fu Phi t b d r) Q E ↔ WpO (asg t d r) fun q => Wp (exs fu Phi b q) Q E := by
  unfold forStep
  cases asg t d r <;> first | rfl | (simp only [wp_ok, wp_ex, wp_bad, wpf_ret, wpf_ex, wpf_bad, WpO, WpP, R.bind, R.sh, R.truth]; done) | (simp only [wp_ok, wp_ex, wp_bad, wpf_ret, wpf_ex, wpf_bad, WpO, WpP, R.bind, R.sh, R.truth]; rfl) | (simp [wp_ok, wp_ex, wp_bad, wpf_ret, wpf_ex, wpf_bad, WpO, WpP, R.bind, R.sh, R.truth, toSh]; done)
theorem wp_loop {c : CE} {b : CSs} {n : Nat} (I : Ro → Prop) (m : Ro → Nat) (h0 : I r) (hm : m r < n)
    (hs : ∀ q, I q → Wp (ev Phi c q) (kTr fun x q1 => (x = true → Wp (exs fu Phi b q1) (fun f q2 => match f with | .nx => I q2 ∧ m q2 < m q | .ret s => Q (.ret s) q2) E) ∧ (x = false → Q .nx q1)) E) :
    Wp (loop (fun q => (ev Phi c q).truth) (fun q => exs fu Phi b q) n r) Q E := by
  induction n generalizing r with
  | zero => omega
  | succ n ih =>
    have h := hs r h0
    rw [← Wp.truth] at h
    simp only [loop]
    cases e : (ev Phi c r).truth with
    | bad => rw [e] at h; exact h.out.elim
    | ex c fs r1 => rw [e] at h; exact ⟨h.out⟩
    | ok x r1 =>
      rw [e] at h
      replace h := h.out
      cases x with
      | false => exact ⟨h.2 rfl⟩
      | true =>
        replace h := h.1 rfl
        simp only
        cases e2 : exs fu Phi b r1 with
        | bad => rw [e2] at h; exact h.out.elim
        | ex c fs r2 => rw [e2] at h; exact ⟨h.out⟩
        | ok f r2 =>
          rw [e2] at h
          replace h := h.out
          cases f with
          | nx => exact ih h.1 (by have := h.2; omega)
          | ret s => exact ⟨h⟩
/-- what a comprehension's turn leads to -/
def kLe2 (q : Ro) (ws : List Nat) (Q : Option PyData → Ro → Prop) (y : PyData) (r : Ro) : Prop := Q (some y) (backR q r ws)
def kLe (Phi : Nat → Ro → FR) (elt : CE) (q : Ro) (ws : List Nat) (Q : Option PyData → Ro → Prop) (E : XP) (b : Bool) (r : Ro) : Prop := (b = true → Wp (ev Phi elt r) (kSh (kLe2 q ws Q)) E) ∧ (b = false → Q none (backR q r ws))
theorem wp_lcStep {elt : CE} {tg : CT} {cond : CEs} {ws : List Nat} {d : PyData} {Q : Option PyData → Ro → Prop} : Wp (lcStep Phi elt tg cond ws d r) Q E ↔ WpO (asg tg d (wipeR r ws)) fun q1 => Wp (evC Phi cond q1) (kLe Phi elt r ws Q E) E := by
  unfold lcStep
  cases asg tg d (wipeR r ws) with
  | none => first | rfl | (simp only [wp_ok, wp_ex, wp_bad, wpf_ret, wpf_ex, wpf_bad, WpO, WpP, R.bind, R.sh, R.truth]; done) | (simp only [wp_ok, wp_ex, wp_bad, wpf_ret, wpf_ex, wpf_bad, WpO, WpP, R.bind, R.sh, R.truth]; rfl) | (simp [wp_ok, wp_ex, wp_bad, wpf_ret, wpf_ex, wpf_bad, WpO, WpP, R.bind, R.sh, R.truth, toSh]; done)
  | some q1 =>
    simp only [WpO, Wp.bind]
    cases evC Phi cond q1 with
    | ok b q2 =>
      simp only [wp_ok, kLe]
      cases b with
      | false => simp [wp_ok, wp_ex, wp_bad]
      | true =>
        simp only [if_true, forall_const, Bool.true_eq_false, false_implies, and_true, true_implies]
        show Wp (R.bind _ _) Q E ↔ _
        rw [Wp.bind, Wp.sh]
        cases ev Phi elt q2 with
        | ok s q3 =>
          simp only [wp_ok, kSh]
          cases toSh s <;> first | rfl | (simp only [wp_ok, wp_ex, wp_bad, wpf_ret, wpf_ex, wpf_bad, WpO, WpP, R.bind, R.sh, R.truth]; done) | (simp only [wp_ok, wp_ex, wp_bad, wpf_ret, wpf_ex, wpf_bad, WpO, WpP, R.bind, R.sh, R.truth]; rfl) | (simp [wp_ok, wp_ex, wp_bad, wpf_ret, wpf_ex, wpf_bad, WpO, WpP, R.bind, R.sh, R.truth, toSh]; done)
        | _ => first | rfl | (simp only [wp_ok, wp_ex, wp_bad, wpf_ret, wpf_ex, wpf_bad, WpO, WpP, R.bind, R.sh, R.truth]; done) | (simp only [wp_ok, wp_ex, wp_bad, wpf_ret, wpf_ex, wpf_bad, WpO, WpP, R.bind, R.sh, R.truth]; rfl) | (simp [wp_ok, wp_ex, wp_bad, wpf_ret, wpf_ex, wpf_bad, WpO, WpP, R.bind, R.sh, R.truth, toSh]; done)
    | _ => first | rfl | (simp only [wp_ok, wp_ex, wp_bad, wpf_ret, wpf_ex, wpf_bad, WpO, WpP, R.bind, R.sh, R.truth]; done) | (simp only [wp_ok, wp_ex, wp_bad, wpf_ret, wpf_ex, wpf_bad, WpO, WpP, R.bind, R.sh, R.truth]; rfl) | (simp [wp_ok, wp_ex, wp_bad, wpf_ret, wpf_ex, wpf_bad, WpO, WpP, R.bind, R.sh, R.truth, toSh]; done)
theorem wp_comp {α : Type} {step : PyData → Ro → R (Option PyData)} {Q : List PyData → Ro → Prop} (enc : α → PyData) (I : List α → List PyData → Ro → Prop) (xs : List α) (h0 : I [] [] r)
    (hs : ∀ pre x post ys q, xs = pre ++ x :: post → I pre ys q → Wp (step (enc x) q) (fun o q' => match o with | some y => I (pre ++ [x]) (ys ++ [y]) q' | none => I (pre ++ [x]) ys q') noE)
    (he : ∀ ys q, I xs ys q → Q ys q) : Wp (comp step (xs.map enc) [] r) Q E := by
  have key : ∀ (post pre : List α) (ys : List PyData) (q : Ro), xs = pre ++ post → I pre ys q → Wp (comp step (post.map enc) ys q) Q E := by
    intro post
    induction post with
    | nil => intro pre ys q e h; rw [List.append_nil] at e; exact ⟨he ys q (by rw [e]; exact h)⟩
    | cons x post ih =>
      intro pre ys q e h
      have hx := hs pre x post ys q e h
      simp only [List.map_cons, comp]
      cases es : step (enc x) q with
      | bad => rw [es] at hx; exact hx.out.elim
      | ex c fs r1 => rw [es] at hx; exact hx.out.elim
      | ok o r1 =>
        rw [es] at hx
        cases o with
        | none => exact ih (pre ++ [x]) ys r1 (by rw [e, List.append_assoc]; rfl) hx.out
        | some y => exact ih (pre ++ [x]) (ys ++ [y]) r1 (by rw [e, List.append_assoc]; rfl) hx.out
  exact key xs [] [] r rfl h0
theorem wp_compR {step : PyData → Ro → R (Option PyData)} {Q : List PyData → Ro → Prop} {lo : Int} {n : Nat} (I : Nat → List PyData → Ro → Prop) (h0 : I 0 [] r)
    (hs : ∀ (k : Nat) ys q, k < n → I k ys q → Wp (step (.int (lo + (k : Int))) q) (fun o q' => match o with | some y => I (k + 1) (ys ++ [y]) q' | none => I (k + 1) ys q') noE)
    (he : ∀ ys q, I n ys q → Q ys q) : Wp (comp step (rngL lo n) [] r) Q E := by
  refine wp_comp (fun (k : Nat) => PyData.int (lo + (k : Int))) (fun pre ys q => I pre.length ys q) (List.range n) h0 (fun pre x post ys q e h => ?_) (fun ys q h => he ys q (by simpa using h))
  have hx : x = pre.length ∧ pre.length < n := by
    have h1 : (List.range n)[pre.length]? = some x := by rw [e]; simp
    rw [List.getElem?_range] at h1
    · exact ⟨(Option.some.inj h1).symm, by have := congrArg List.length e; simp at this; omega⟩
    · have := congrArg List.length e; simp at this; omega
  obtain ⟨rfl, hl⟩ := hx
  have := hs pre.length ys q hl h
  rw [List.length_append]
  exact this
/-- a comprehension that leaves the slots as they are -/
theorem wp_compM {α : Type} {step : PyData → Ro → R (Option PyData)} {Q : List PyData → Ro → Prop} (enc : α → PyData) (g : α → Option PyData) (xs : List α)
    (hs : ∀ x ∈ xs, Wp (step (enc x) r) (fun o q' => o = g x ∧ q' = r) noE) (he : Q (xs.filterMap g) r) : Wp (comp step (xs.map enc) [] r) Q E := by
  refine wp_comp enc (fun pre ys q => ys = pre.filterMap g ∧ q = r) xs ⟨rfl, rfl⟩ (fun pre x post ys q e h => ?_) (fun ys q h => by rw [h.1, h.2]; exact he)
  obtain ⟨rfl, rfl⟩ := h
  refine (hs x (by rw [e]; simp)).to fun o q' ⟨h1, h2⟩ => ?_
  subst h1 h2
  cases e2 : g x with
  | none => simp [e2]
  | some y => simp [e2]
end
/-! defs -/
section
variable {fu : Nat} {Phi : Nat → Ro → FR} {E : XP}
def outL (muts : List Nat) : Nat → Ro → Ro → Ro
  | _, [], _ => []
  | i, a :: as, r => (if decide (i ∈ muts) = true then r.headD .non else a) :: outL muts (i + 1) as r.tail
theorem outL_eq (muts : List Nat) : ∀ (as : Ro) (i : Nat) (r : Ro), outL muts i as r = (List.range as.length).map fun j => if decide (i + j ∈ muts) = true then r.getD j .non else as.getD j .non
  | [], i, r => rfl
  | a :: as, i, r => by
    rw [outL, outL_eq muts as (i + 1) r.tail, List.length_cons, List.range_succ_eq_map, List.map_cons, List.map_map]
    congr 1
    · cases r <;> simp
    · apply List.map_congr_left
      intro j _
      have e : i + 1 + j = i + (j + 1) := by omega
      cases r <;> simp [e, Function.comp]
theorem outsOf_eq (muts : List Nat) (args r : Ro) : outsOf muts args r = outL muts 0 args r := by
  rw [outL_eq]
  unfold outsOf
  simp
def kFn (muts : List Nat) (args : Ro) (Q : Slot → Ro → Prop) (f : Fl) (r : Ro) : Prop := match f with
  | .ret s => Q s (outL muts 0 args r)
  | .nx => Q (.sh .none) (outL muts 0 args r)
def eFn (muts : List Nat) (args : Ro) (E : XP) (c : Nat) (fs : List (PyData × PyData)) (r : Ro) : Prop := E c fs (outL muts 0 args r)
theorem wp_fn {np nn : Nat} {muts : List Nat} {body : CSs} {args : Ro} {Q : Slot → Ro → Prop} (h1 : args.length = np) (h2 : okArgs muts 0 args = true)
    (h : Wp (exs fu Phi body (args ++ List.replicate (nn - np) .non)) (kFn muts args Q) (eFn muts args E)) : WpF (runF fu Phi ⟨np, nn, muts, body⟩ args) Q E := by
  unfold runF
  rw [if_pos (by simp [h1, h2])]
  simp only
  cases e : exs fu Phi body (args ++ List.replicate (nn - np) .non) with
  | bad => rw [e] at h; exact h.out.elim
  | ex c fs r => rw [e] at h; simp only [wpf_ret, wpf_ex, outsOf_eq]; exact h.out
  | ok f r =>
    rw [e] at h
    cases f with
    | nx => simp only [wpf_ret, wpf_ex, outsOf_eq]; exact h.out
    | ret s => simp only [wpf_ret, wpf_ex, outsOf_eq]; exact h.out
theorem run_succ {T : List Fn} {i k : Nat} {F : Fn} {args : Ro} (h : T[i]? = some F) : run fu T (k + 1) i args = runF fu (run fu T k) F args := by simp only [run, h]
end
end Ev
end

section
set_option maxHeartbeats 8000000
set_option Elab.async false
set_option linter.all false
set_option maxRecDepth 100000
/-! The operations, ready for the plain side. -/
namespace Ev
open PySem L2
theorem pFdivI {i j : Int} (h : 0 < j) (h2 : j < 1000000000000000000000000000000) : pFdiv [.int i, .int j] = some (.sh (.int (i / j))) := by simp [pFdiv, h, h2]
theorem pModI {i j : Int} (h : 0 < j) : pMod [.int i, .int j] = some (.sh (.int (i % j))) := by simp [pMod, h]
theorem pMulI {i j : Int} (h : i.natAbs < 18446744073709551616 ∨ j.natAbs < 18446744073709551616) : pMul [.int i, .int j] = some (.sh (.int (i * j))) := by
  show (if _ then _ else _) = _
  rw [if_pos]
  simp only [Bool.or_eq_true, decide_eq_true_eq]
  exact h
theorem pPowI {i j : Int} (h : 0 ≤ j) (h2 : j ≤ 1000000) (h3 : i.natAbs < 18446744073709551616) : pPow [.int i, .int j] = some (.sh (.int (i ^ j.toNat))) := by
  show (if _ then _ else _) = _
  rw [if_pos]
  simp only [Bool.and_eq_true, decide_eq_true_eq]
  exact ⟨⟨h, h2⟩, h3⟩
theorem shp_int (i : Int) : shp (.int i) = true := by rfl
theorem pEqI {i j : Int} : pEq [.int i, .int j] = some (.sh (.bool (decide (i = j)))) := by
  simp only [pEq, pNe, shp_int, PyData.eqv, Bool.and_self, if_true]; rfl
theorem pNeI {i j : Int} : pNe [.int i, .int j] = some (.sh (.bool (!decide (i = j)))) := by
  simp only [pEq, pNe, shp_int, PyData.eqv, Bool.and_self, if_true]; rfl
theorem seqI_L {ds : List PyData} {l : List Lk} {r : Ro} : seqI (.list ds) l r = .ok (ds, l) r := rfl
theorem seqI_U {ds : List PyData} {l : List Lk} {r : Ro} : seqI (.tuple ds) l r = .ok (ds, l) r := rfl
theorem pIsiN {t : String} : pIsi t [.none] = (tyD .none t).map fun b => .sh (.bool b) := rfl
theorem pIsiB {t : String} {b : Bool} : pIsi t [.bool b] = (tyD (.bool b) t).map fun b => .sh (.bool b) := rfl
theorem pIsiI {t : String} {i : Int} : pIsi t [.int i] = (tyD (.int i) t).map fun b => .sh (.bool b) := rfl
theorem pIsiS {t : String} {s : Str} : pIsi t [.str s] = (tyD (.str s) t).map fun b => .sh (.bool b) := rfl
theorem pIsiL {t : String} {l : List PyData} : pIsi t [.list l] = (tyD (.list l) t).map fun b => .sh (.bool b) := rfl
theorem pIsiU {t : String} {l : List PyData} : pIsi t [.tuple l] = (tyD (.tuple l) t).map fun b => .sh (.bool b) := rfl
theorem pIsiD {t : String} {l : List (PyData × PyData)} : pIsi t [.dict l] = (tyD (.dict l) t).map fun b => .sh (.bool b) := rfl
theorem pSubI {i j : Int} : pSub [.int i, .int j] = some (.sh (.int (i - j))) := rfl
theorem pRevL {l : List PyData} : pRev [.list l] = some (.lst l.reverse) := rfl
theorem pLtI {i j : Int} : pLt [.int i, .int j] = some (.sh (.bool (decide (i < j)))) := rfl
theorem pLeI {i j : Int} : pLe [.int i, .int j] = some (.sh (.bool (decide (i ≤ j)))) := rfl
theorem pGtI {i j : Int} : pGt [.int i, .int j] = some (.sh (.bool (decide (j < i)))) := rfl
theorem pGeI {i j : Int} : pGe [.int i, .int j] = some (.sh (.bool (decide (j ≤ i)))) := rfl
theorem atI_0 {α : Type} {a : α} {l : List α} : atI (a :: l) 0 = some a := by simp [atI, ixN]
theorem atI_nat {α : Type} {l : List α} {n : Nat} (h : n < l.length) : atI l (n : Int) = l[n]? := by
  have h2 : (n : Int) < (l.length : Int) := by omega
  simp [atI, ixN, h2]
theorem atI_s {α : Type} {a b : α} {l : List α} : atI (a :: b :: l) 1 = some b := by
  have h2 : (1 : Int) < ((a :: b :: l).length : Int) := by simp only [List.length_cons]; omega
  unfold atI ixN
  rw [if_pos (by decide), if_pos h2]
  rfl
theorem atI_m1 {α : Type} {a : α} : atI [a] (-1) = some a := by simp [atI, ixN]
theorem ixN_0 {n : Nat} (h : 0 < n) : ixN n 0 = some 0 := by
  have : (0 : Int) < (n : Int) := by omega
  unfold ixN
  rw [if_pos (by decide), if_pos this]
  rfl
theorem ixN_1 {n : Nat} (h : 1 < n) : ixN n 1 = some 1 := by
  have : (1 : Int) < (n : Int) := by omega
  unfold ixN
  rw [if_pos (by decide), if_pos this]
  rfl
theorem ixN_m1 {n : Nat} (h : 0 < n) : ixN n (-1) = some (n - 1) := by
  have h1 : ¬ (0 : Int) ≤ -1 := by decide
  have h2 : -(n : Int) ≤ -1 := by omega
  have h3 : (-1 + (n : Int)).toNat = n - 1 := by omega
  simp only [ixN, if_neg h1, if_pos h2, h3]
theorem ixN_nat {n k : Nat} (h : k < n) : ixN n (k : Int) = some k := by
  have : (k : Int) < (n : Int) := by omega
  simp [ixN, this]
theorem in62_of {n : Int} (h0 : -1000000000 ≤ n) (h1 : n ≤ 1000000000) : in62 n = true := by
  simp only [in62, Bool.and_eq_true, decide_eq_true_eq]
  omega
theorem small_of {n : Nat} (h : n ≤ 16777216) : small n = true := decide_eq_true h
theorem pAddI {i j : Int} : pAdd [.int i, .int j] = some (.sh (.int (i + j))) := rfl
theorem pAddL {a b : List PyData} (h : a.length + b.length ≤ 16777216) : pAdd [.list a, .list b] = some (.lst (a ++ b)) := by
  show (if _ then _ else _) = _
  rw [if_pos (small_of h)]
theorem pAddT {a b : List PyData} (h : a.length + b.length ≤ 16777216) : pAdd [.tuple a, .tuple b] = some (.sh (.tuple (a ++ b))) := by
  show (if _ then _ else _) = _
  rw [if_pos (small_of h)]
theorem rg1T {n : Int} (h0 : -1000000000 ≤ n) (h1 : n ≤ 16777216) : rgA n = True := by
  unfold rgA
  rw [in62_of h0 (by omega), small_of (by omega)]
  simp
theorem rg2T {m n : Int} (h0 : -1000000000 ≤ m) (h1 : m ≤ 1000000000) (h2 : -1000000000 ≤ n) (h3 : n ≤ 1000000000) (h4 : n - m ≤ 16777216) : rgB m n = True := by
  unfold rgB
  rw [in62_of h0 h1, in62_of h2 h3, small_of (by omega)]
  simp
theorem smallT {n : Nat} (h : n ≤ 16777216) : (small n = true) = True := by rw [small_of h]; simp
theorem ltT {n : Nat} (h : n < 16777216) : (n < 16777216) = True := by simp [h]
theorem toNat_nat (n : Nat) : ((n : Int)).toNat = n := Int.toNat_natCast n
theorem pListL {a : List PyData} : pList [.list a] = some (.lst a) := rfl
theorem pListU {a : List PyData} : pList [.tuple a] = some (.lst a) := rfl
theorem pTupL {a : List PyData} : pTuple [.list a] = some (.sh (.tuple a)) := rfl
theorem pTupU {a : List PyData} : pTuple [.tuple a] = some (.sh (.tuple a)) := rfl
theorem pLenLL {a : List PyData} : pLen [.list a] = some (.sh (.int a.length)) := rfl
theorem pLenU {a : List PyData} : pLen [.tuple a] = some (.sh (.int a.length)) := rfl
theorem pLenS {ns : List Int} : pLen [scrD ns] = some (.sh (.int ns.length)) := by
  show some (Slot.sh (.int ((ns.map PyData.int).length : Nat))) = _
  rw [List.length_map]
theorem pLenD {t : Bool} {kvs : List (PyData × PyData)} : pLen [.dict ((.bool t, .none) :: kvs)] = some (.sh (.int kvs.length)) := rfl
theorem pItemL {a : List PyData} {i : Int} : pItem [.list a, .int i] = (atI a i).map .sh := rfl
theorem pItemU {a : List PyData} {i : Int} : pItem [.tuple a, .int i] = (atI a i).map .sh := rfl
theorem pItemS {ns : List Int} {i : Int} : pItem [scrD ns, .int i] = (atI (ns.map PyData.int) i).map .sh := rfl
theorem pMaxI {i j : Int} : pMax2 [.int i, .int j] = some (.sh (.int (if j > i then j else i))) := rfl
theorem pMinI {i j : Int} : pMin2 [.int i, .int j] = some (.sh (.int (if j < i then j else i))) := rfl
theorem pIntI {i : Int} : pInt [.int i] = some (.sh (.int i)) := rfl
theorem pIntB {b : Bool} : pInt [.bool b] = some (.sh (.int (if b then 1 else 0))) := rfl
/-- a pool of a law -/
def PoolOk (l : List PyData) : Prop := ∃ c s, l = [.int c, .int s] ∧ 0 ≤ c ∧ 0 ≤ s ∧ s < 2147483647
/-- what drawing promises -/
def TakeS (P : Ro → FR) : Prop := ∀ (l : List PyData) (n : Int), PoolOk l → 0 < n → n < 1000000000000000000000000000000 →
  WpF (P [.lst l, .sh (.int n)]) (fun v o => ∃ (x : Nat) (l' : List PyData), v = .sh (.int x) ∧ o = [.lst l', .sh (.int n)] ∧ (x : Int) < n ∧ PoolOk l') noE
/-- what the pool's making promises -/
def PoolS (P : Ro → FR) : Prop := ∀ (ns : List Int) (j : Nat), j < 64 → ns.length ≤ 63 →
  WpF (P [.sh (scrD ns), .sh (.int j)]) (fun v o => ∃ l, v = .lst l ∧ o = [.sh (scrD ns), .sh (.int j)] ∧ PoolOk l) noE
theorem scr_at {ns : List Int} {j : Nat} (h : j < ns.length) : atI (ns.map PyData.int) (j : Int) = some (.int (ns.getD j 0)) := by
  rw [atI_nat (by simpa using h)]
  simp [h]
theorem mod_nn (a : Int) {n : Int} (h : 0 < n) : 0 ≤ a % n := Int.emod_nonneg a (by omega)
theorem mod_lt (a : Int) {n : Int} (h : 0 < n) : a % n < n := Int.emod_lt_of_pos a h
theorem toSh_sh {d : PyData} : toSh (.sh d) = some d := rfl
theorem toSh_lst {ds : List PyData} : toSh (.lst ds) = some (.list ds) := rfl
theorem toSh_dct {t : Bool} {kvs : List (PyData × PyData)} : toSh (.dct t kvs) = some (dictD t kvs) := rfl
theorem asg_name {i : Nat} {d : PyData} {r : Ro} : asg (.name i) d r = asgN i (.sh d) r := by simp only [asg]
theorem asg_tupU {ts : CTs} {ds : List PyData} {r : Ro} : asg (.tup ts) (.tuple ds) r = asgs ts ds r := by simp only [asg]
theorem asgs_nil {r : Ro} : asgs .nil [] r = some r := by simp only [asgs]
theorem asgs_cons {t : CT} {ts : CTs} {d : PyData} {ds : List PyData} {r : Ro} : asgs (.cons t ts) (d :: ds) r = (match asg t d r with | some r' => asgs ts ds r' | none => none) := by first | (simp only [asgs]; done) | (simp only [asgs]; cases asg t d r <;> rfl)
/-! a body in two parts -/
def takeS : Nat → CSs → CSs
  | 0, _ => .nil
  | _ + 1, .nil => .nil
  | n + 1, .cons s b => .cons s (takeS n b)
def dropS : Nat → CSs → CSs
  | 0, b => b
  | _ + 1, .nil => .nil
  | n + 1, .cons _ b => dropS n b
theorem wp_cut {fu : Nat} {Phi : Nat → Ro → FR} {Q : Fl → Ro → Prop} {E : XP} : ∀ (n : Nat) {b : CSs} {r : Ro}, Wp (exs fu Phi (takeS n b) r) (kSeq fu Phi (dropS n b) Q E) E → Wp (exs fu Phi b r) Q E
  | 0, b, r, h => by simpa only [takeS, dropS, wp_exs_nil, kSeq_nx] using h
  | n + 1, .nil, r, h => by simpa only [takeS, dropS, wp_exs_nil, kSeq_nx] using h
  | n + 1, .cons s b, r, h => by
    simp only [takeS, dropS, wp_exs_cons] at h ⊢
    refine h.imp (fun f q h => ?_) fun _ _ _ z => z
    cases f with
    | nx =>
      rw [kSeq_nx] at h ⊢
      exact wp_cut n h
    | ret s => rw [kSeq_ret] at h ⊢; rw [kSeq_ret] at h; exact h
/-- what stands between two parts of a body -/
def kMid (M : Ro → Prop) (Q : Fl → Ro → Prop) (f : Fl) (q : Ro) : Prop := match f with
  | .nx => M q
  | .ret s => Q (.ret s) q
theorem kMid_nx {M : Ro → Prop} {Q : Fl → Ro → Prop} {q : Ro} : kMid M Q .nx q ↔ M q := Iff.rfl
theorem kMid_ret {M : Ro → Prop} {Q : Fl → Ro → Prop} {s : Slot} {q : Ro} : kMid M Q (.ret s) q ↔ Q (.ret s) q := Iff.rfl
theorem wp_mid {fu : Nat} {Phi : Nat → Ro → FR} {Q : Fl → Ro → Prop} {E : XP} {b : CSs} {r : Ro} (n : Nat) (M : Ro → Prop) (h1 : Wp (exs fu Phi (takeS n b) r) (kMid M Q) E) (h2 : ∀ q, M q → Wp (exs fu Phi (dropS n b) q) Q E) : Wp (exs fu Phi b r) Q E := by
  refine wp_cut n (h1.imp (fun f q h => ?_) fun _ _ _ z => z)
  cases f with
  | nx => rw [kSeq_nx]; exact h2 q h
  | ret s => rw [kSeq_ret]; exact h
theorem wp_turnsD {Q : Fl → Ro → Prop} {E : XP} {r : Ro} {step : PyData → Ro → R Fl} (I : List PyData → Ro → Prop) {xs : List PyData} (h0 : I [] r)
    (hs : ∀ pre x post q, xs = pre ++ x :: post → I pre q → Wp (step x q) (fun f q' => match f with | .nx => I (pre ++ [x]) q' | .ret s => Q (.ret s) q') E)
    (he : ∀ q, I xs q → Q .nx q) : Wp (turns step xs r) Q E := by
  have := wp_turns (step := step) (Q := Q) (E := E) (r := r) (id : PyData → PyData) I xs h0 hs he
  rwa [List.map_id] at this
theorem wp_compMD {E : XP} {r : Ro} {step : PyData → Ro → R (Option PyData)} {Q : List PyData → Ro → Prop} (g : PyData → Option PyData) {xs : List PyData}
    (hs : ∀ x ∈ xs, Wp (step x r) (fun o q' => o = g x ∧ q' = r) noE) (he : Q (xs.filterMap g) r) : Wp (comp step xs [] r) Q E := by
  have := wp_compM (step := step) (Q := Q) (E := E) (r := r) (id : PyData → PyData) g xs hs he
  rwa [List.map_id] at this
/-! slices -/
theorem sIx_nat (n d k : Nat) : HT.sIx n d (some (k : Int)) = min k n := by
  have h : ¬ ((k : Int) < 0) := by omega
  simp [HT.sIx, h]
theorem cut_from (ds : List PyData) (k : Nat) : cutD ds (some (k : Int)) none = ds.drop k := by
  unfold cutD
  rw [sIx_nat]
  show (ds.drop (min k ds.length)).take (ds.length - min k ds.length) = _
  rw [List.take_of_length_le (by simp)]
  by_cases h : k ≤ ds.length
  · rw [Nat.min_eq_left h]
  · rw [Nat.min_eq_right (by omega), List.drop_length, List.drop_eq_nil_of_le (by omega)]
theorem cut_to (ds : List PyData) (k : Nat) : cutD ds none (some (k : Int)) = ds.take k := by
  unfold cutD
  rw [sIx_nat]
  show (ds.drop 0).take (min k ds.length - 0) = _
  rw [List.drop_zero, Nat.sub_zero]
  by_cases h : k ≤ ds.length
  · rw [Nat.min_eq_left h]
  · rw [Nat.min_eq_right (by omega), List.take_length, List.take_of_length_le (by omega)]
theorem cut_fromto (ds : List PyData) (i j : Nat) : cutD ds (some (i : Int)) (some (j : Int)) = (ds.take j).drop i := by
  unfold cutD
  rw [sIx_nat, sIx_nat]
  apply List.ext_getElem?
  intro k
  simp only [List.getElem?_take, List.getElem?_drop]
  by_cases h : i ≤ ds.length
  · rw [show min i ds.length = i by omega]
    by_cases h2 : k < min j ds.length - i
    · rw [if_pos h2, if_pos (by omega)]
    · rw [if_neg h2]
      split
      · rw [List.getElem?_eq_none (by omega)]
      · rfl
  · rw [show min i ds.length = ds.length by omega]
    rw [if_neg (by omega)]
    split
    · rw [List.getElem?_eq_none (by omega)]
    · rfl
theorem pSlUlo {ds : List PyData} {k : Nat} : pSl true false [.tuple ds, .int (k : Int)] = some (.sh (.tuple (ds.drop k))) := by show some (Slot.sh (.tuple (cutD ds (some (k : Int)) none))) = _; rw [cut_from]
theorem pSlUhi {ds : List PyData} {k : Nat} : pSl false true [.tuple ds, .int (k : Int)] = some (.sh (.tuple (ds.take k))) := by show some (Slot.sh (.tuple (cutD ds none (some (k : Int))))) = _; rw [cut_to]
theorem pSlLlo {ds : List PyData} {k : Nat} : pSl true false [.list ds, .int (k : Int)] = some (.lst (ds.drop k)) := by show some (Slot.lst (cutD ds (some (k : Int)) none)) = _; rw [cut_from]
theorem pSlLhi {ds : List PyData} {k : Nat} : pSl false true [.list ds, .int (k : Int)] = some (.lst (ds.take k)) := by show some (Slot.lst (cutD ds none (some (k : Int)))) = _; rw [cut_to]
theorem pSlUlo1 {ds : List PyData} : pSl true false [.tuple ds, .int 1] = some (.sh (.tuple (ds.drop 1))) := pSlUlo (k := 1)
theorem pSlUhi1 {ds : List PyData} : pSl false true [.tuple ds, .int 1] = some (.sh (.tuple (ds.take 1))) := pSlUhi (k := 1)
theorem pSlLlo1 {ds : List PyData} : pSl true false [.list ds, .int 1] = some (.lst (ds.drop 1)) := pSlLlo (k := 1)
theorem pSlLhi1 {ds : List PyData} : pSl false true [.list ds, .int 1] = some (.lst (ds.take 1)) := pSlLhi (k := 1)
theorem cutP_L {ds : List PyData} {i j : Nat} : cutP (.list ds) (some (i : Int)) (some (j : Int)) = some (.lst ((ds.take j).drop i)) := by show some (Slot.lst (cutD ds (some (i : Int)) (some (j : Int)))) = _; rw [cut_fromto]
theorem cutP_U {ds : List PyData} {i j : Nat} : cutP (.tuple ds) (some (i : Int)) (some (j : Int)) = some (.sh (.tuple ((ds.take j).drop i))) := by show some (Slot.sh (.tuple (cutD ds (some (i : Int)) (some (j : Int))))) = _; rw [cut_fromto]
theorem pRevU {l : List PyData} : pRev [.tuple l] = some (.sh (.tuple l.reverse)) := rfl
theorem log2_small {i : Int} (h : i.natAbs < 18446744073709551616) : i.natAbs.log2 < 1920 := by
  by_cases h0 : i.natAbs = 0
  · rw [h0]; decide
  · exact (Nat.log2_lt h0).mpr (Nat.lt_of_lt_of_le (show i.natAbs < 2 ^ 64 from h) (Nat.pow_le_pow_right (by decide) (by decide)))
theorem pStrI {i : Int} (h : i.natAbs < 18446744073709551616) : pStr [.int i] = some (.sh (.str (toString i))) := by
  show (if decide (i.natAbs.log2 < 1920) = true then _ else _) = _
  rw [if_pos (decide_eq_true (log2_small h))]
/-- how many cells are gone through -/
theorem cnt_of (ns : List Int) (m : Nat) (h1 : 1 ≤ m) : ∃ cnt : Nat, (if (if (m : Int) < (ns.length : Int) then (m : Int) else (ns.length : Int)) > 1 then (if (m : Int) < (ns.length : Int) then (m : Int) else (ns.length : Int)) else 1) = (cnt : Int) ∧ 1 ≤ cnt ∧ cnt ≤ m := by
  by_cases h : (m : Int) < (ns.length : Int)
  · rw [if_pos h]
    split
    · exact ⟨m, rfl, h1, by omega⟩
    · exact ⟨1, rfl, by omega, by omega⟩
  · rw [if_neg h]
    split
    · exact ⟨ns.length, rfl, by omega, by omega⟩
    · exact ⟨1, rfl, by omega, by omega⟩
theorem run_fn {fu : Nat} {T : List Fn} {i k : Nat} {F : Fn} (h : T[i]? = some F) : run fu T (k + 1) i = runF fu (run fu T k) F := by
  funext args
  exact run_succ h
end Ev
end

section
set_option maxHeartbeats 8000000
set_option linter.all false
/-! Choices of rising numbers, plain. -/
namespace Mc
/-- the whole numbers from lo on, below m -/
def rng (lo m : Int) : List Int := (List.range (m - lo).toNat).map fun (k : Nat) => lo + (k : Int)
theorem mem_rng {lo m x : Int} : x ∈ rng lo m ↔ lo ≤ x ∧ x < m := by
  unfold rng
  rw [List.mem_map]
  constructor
  · rintro ⟨k, hk, rfl⟩
    have := List.mem_range.mp hk
    omega
  · intro h
    exact ⟨(x - lo).toNat, List.mem_range.mpr (by omega), by omega⟩
theorem rng_length (lo m : Int) : (rng lo m).length = (m - lo).toNat := by simp [rng]
theorem rng_nil {lo m : Int} (h : m ≤ lo) : rng lo m = [] := by
  have : (m - lo).toNat = 0 := by omega
  simp [rng, this]
theorem rng_cons {lo m : Int} (h : lo < m) : rng lo m = lo :: rng (lo + 1) m := by
  have e : (m - lo).toNat = (m - (lo + 1)).toNat + 1 := by omega
  unfold rng
  rw [e, List.range_succ_eq_map, List.map_cons, List.map_map]
  congr 1
  · simp
  · apply List.map_congr_left
    intro k _
    simp only [Function.comp]
    omega
theorem rng_succ {lo m : Int} (h : lo ≤ m) : rng lo (m + 1) = rng lo m ++ [m] := by
  have e : (m + 1 - lo).toNat = (m - lo).toNat + 1 := by omega
  unfold rng
  rw [e, List.range_succ, List.map_append]
  congr 1
  simp
  omega
theorem rng_pairwise (lo m : Int) : (rng lo m).Pairwise (· < ·) := by
  unfold rng
  rw [List.pairwise_map]
  refine List.Pairwise.imp ?_ List.pairwise_lt_range
  intro a b h
  omega

/-- all rising lists of s numbers from lo on, below m, in their order -/
def chs (m : Int) : Nat → Int → List (List Int)
  | 0, _ => [[]]
  | s + 1, lo => (rng lo m).flatMap fun x => (chs m s (x + 1)).map (x :: ·)
/-- rising from lo on, below m -/
def Rise (m : Int) : Int → List Int → Prop
  | _, [] => True
  | lo, x :: t => lo ≤ x ∧ x < m ∧ Rise m (x + 1) t
theorem mem_chs {m : Int} : ∀ {s : Nat} {lo : Int} {t : List Int}, t ∈ chs m s lo ↔ t.length = s ∧ Rise m lo t
  | 0, lo, t => by
    unfold chs
    constructor
    · intro h; rw [List.mem_singleton] at h; subst h; exact ⟨rfl, trivial⟩
    · intro ⟨h, _⟩; rw [List.length_eq_zero_iff] at h; subst h; exact List.mem_singleton.mpr rfl
  | s + 1, lo, t => by
    unfold chs
    rw [List.mem_flatMap]
    constructor
    · rintro ⟨x, hx, ht⟩
      obtain ⟨u, hu, rfl⟩ := List.mem_map.mp ht
      obtain ⟨h1, h2⟩ := mem_chs.mp hu
      have := mem_rng.mp hx
      exact ⟨by simp [h1], this.1, this.2, h2⟩
    · intro ⟨h1, h2⟩
      cases t with
      | nil => cases h1
      | cons x u =>
        obtain ⟨a, b, c⟩ := h2
        exact ⟨x, mem_rng.mpr ⟨a, b⟩, List.mem_map.mpr ⟨u, mem_chs.mpr ⟨by simpa using h1, c⟩, rfl⟩⟩
theorem chs_pairwise {m : Int} : ∀ (s : Nat) (lo : Int), (chs m s lo).Pairwise (· < ·)
  | 0, _ => by unfold chs; exact List.pairwise_singleton _ _
  | s + 1, lo => by
    unfold chs
    rw [List.pairwise_flatMap]
    refine ⟨fun x _ => ?_, List.Pairwise.imp ?_ (rng_pairwise lo m)⟩
    · rw [List.pairwise_map]
      refine List.Pairwise.imp ?_ (chs_pairwise s (x + 1))
      intro a b h
      exact List.cons_lt_cons_iff.mpr (.inr ⟨rfl, h⟩)
    · intro a b h x hx y hy
      obtain ⟨u, _, rfl⟩ := List.mem_map.mp hx
      obtain ⟨v, _, rfl⟩ := List.mem_map.mp hy
      exact List.cons_lt_cons_iff.mpr (.inl h)
theorem nodup_of_lt {l : List (List Int)} (h : l.Pairwise (· < ·)) : l.Nodup := List.Pairwise.imp (fun h e => by subst e; exact List.lt_irrefl _ h) h
theorem chs_nodup {m : Int} (s : Nat) (lo : Int) : (chs m s lo).Nodup := nodup_of_lt (chs_pairwise s lo)

theorem rise_snoc {m : Int} : ∀ {t : List Int} {lo x : Int}, Rise m lo (t ++ [x]) ↔ Rise x lo t ∧ lo ≤ x ∧ x < m ∧ (∀ y ∈ t, y < x)
  | [], lo, x => by
    simp [Rise]
  | y :: t, lo, x => by
    simp only [List.cons_append, Rise, List.mem_cons, forall_eq_or_imp]
    rw [rise_snoc]
    constructor
    · rintro ⟨h1, h2, h3, h4, h5, h6⟩
      exact ⟨⟨h1, by omega, h3⟩, by omega, h5, by omega, h6⟩
    · rintro ⟨⟨h1, h2, h3⟩, h4, h5, h6, h7⟩
      exact ⟨h1, by omega, h3, by omega, h5, h7⟩
theorem rise_lt {m : Int} : ∀ {t : List Int} {lo : Int}, Rise m lo t → ∀ y ∈ t, lo ≤ y ∧ y < m
  | [], _, _, y, h => nomatch h
  | x :: t, lo, ⟨a, b, c⟩, y, h => by
    rcases List.mem_cons.mp h with rfl | h
    · exact ⟨a, b⟩
    · have := rise_lt c y h
      omega
theorem rise_length {m : Int} : ∀ {t : List Int} {lo : Int}, Rise m lo t → lo ≤ m → (t.length : Int) ≤ m - lo
  | [], lo, _, h => by simp; omega
  | x :: t, lo, ⟨a, b, c⟩, h => by
    have := rise_length c (by omega)
    simp only [List.length_cons]
    omega

/-- the choices by their last one -/
def byLast (s : Nat) (m : Int) : List (List Int) := (rng (s : Int) m).flatMap fun x => (chs x s 0).map (· ++ [x])
theorem byLast_mem {s : Nat} {m : Int} {t : List Int} : t ∈ byLast s m ↔ t ∈ chs m (s + 1) 0 := by
  unfold byLast
  rw [List.mem_flatMap, mem_chs]
  constructor
  · rintro ⟨x, hx, ht⟩
    obtain ⟨u, hu, rfl⟩ := List.mem_map.mp ht
    obtain ⟨h1, h2⟩ := mem_chs.mp hu
    have := mem_rng.mp hx
    refine ⟨by simp [h1], rise_snoc.mpr ⟨h2, by omega, this.2, fun y hy => (rise_lt h2 y hy).2⟩⟩
  · rintro ⟨h1, h2⟩
    have hne : t ≠ [] := by intro e; subst e; cases h1
    have e := List.dropLast_concat_getLast hne
    rw [← e] at h2
    obtain ⟨a, b, c, d⟩ := rise_snoc.mp h2
    have hl : t.dropLast.length = s := by rw [List.length_dropLast, h1]; rfl
    have := rise_length a b
    refine ⟨t.getLast hne, mem_rng.mpr ⟨by omega, c⟩, List.mem_map.mpr ⟨t.dropLast, mem_chs.mpr ⟨hl, a⟩, e⟩⟩
theorem byLast_nodup (s : Nat) (m : Int) : (byLast s m).Nodup := by
  unfold byLast List.Nodup
  rw [List.pairwise_flatMap]
  refine ⟨fun x _ => ?_, List.Pairwise.imp ?_ (rng_pairwise _ m)⟩
  · rw [List.pairwise_map]
    refine List.Pairwise.imp ?_ (chs_nodup (m := x) s 0)
    intro a b h e
    exact h (List.append_inj_left' e rfl)
  · intro a b h x hx y hy e
    obtain ⟨u, _, rfl⟩ := List.mem_map.mp hx
    obtain ⟨v, _, rfl⟩ := List.mem_map.mp hy
    have := List.append_inj_right' e rfl
    simp at this
    omega
theorem byLast_perm (s : Nat) (m : Int) : (byLast s m).Perm (chs m (s + 1) 0) := (List.perm_ext_iff_of_nodup (byLast_nodup s m) (chs_nodup _ _)).mpr fun _ => byLast_mem
/-- sorted they are the choices -/
theorem byLast_sorted (s : Nat) (m : Int) : (byLast s m).mergeSort (fun a b => decide (a ≤ b)) = chs m (s + 1) 0 := by
  refine List.Perm.eq_of_pairwise (le := fun a b => a ≤ b) ?_ ?_ ?_ ((List.mergeSort_perm _ _).trans (byLast_perm s m))
  · intro a b _ _ h1 h2
    exact List.le_antisymm h1 h2
  · refine List.Pairwise.imp ?_ (List.pairwise_mergeSort ?_ ?_ _)
    · intro a b h; exact of_decide_eq_true h
    · intro a b c h1 h2; exact decide_eq_true (List.le_trans (of_decide_eq_true h1) (of_decide_eq_true h2))
    · intro a b
      rcases List.le_total a b with h | h
      · simp [h]
      · simp [h]
  · exact List.Pairwise.imp (fun h => List.le_of_lt h) (chs_pairwise _ _)
/-- one number more behind -/
def ext (m : Int) (t : List Int) : List (List Int) := (rng ((-1 :: t).getLast (by simp) + 1) m).map fun x => t ++ [x]
theorem chs_ext {m : Int} : ∀ (s : Nat) (lo : Int), chs m (s + 1) lo = (chs m s lo).flatMap fun t => (rng (((lo - 1) :: t).getLast (by simp) + 1) m).map fun x => t ++ [x]
  | 0, lo => by
    simp only [chs, List.flatMap_cons, List.flatMap_nil, List.append_nil, List.map_cons, List.map_nil, List.getLast_singleton, List.nil_append]
    have : lo - 1 + 1 = lo := by omega
    rw [this]
    induction rng lo m with
    | nil => rfl
    | cons x l ih => simp [List.flatMap_cons, ih]
  | s + 1, lo => by
    rw [show chs m (s + 1 + 1) lo = (rng lo m).flatMap fun x => (chs m (s + 1) (x + 1)).map (x :: ·) from rfl]
    rw [show chs m (s + 1) lo = (rng lo m).flatMap fun x => (chs m s (x + 1)).map (x :: ·) from rfl]
    rw [List.flatMap_assoc]
    congr 1
    funext x
    rw [chs_ext s (x + 1), List.map_flatMap, List.flatMap_map]
    congr 1
    funext t
    rw [List.map_map]
    have e : ((lo - 1) :: x :: t).getLast (by simp) = ((x + 1 - 1) :: t).getLast (by simp) := by
      rw [List.getLast_cons (by simp)]
      congr 1
      simp
    rw [e]
    rfl
theorem chs_ext0 (m : Int) (s : Nat) : chs m (s + 1) 0 = (chs m s 0).flatMap (ext m) := chs_ext s 0
theorem chs_len_le {m : Int} : ∀ (s : Nat) (lo : Int), (chs m s lo).length ≤ 2 ^ (m - lo).toNat
  | 0, lo => by simp [chs]; exact Nat.one_le_two_pow
  | s + 1, lo => by
    by_cases h : lo < m
    · have e : chs m (s + 1) lo = (chs m s (lo + 1)).map (lo :: ·) ++ chs m (s + 1) (lo + 1) := by
        show ((rng lo m).flatMap fun x => (chs m s (x + 1)).map (x :: ·)) = _
        rw [rng_cons h, List.flatMap_cons]
        rfl
      rw [e, List.length_append, List.length_map]
      have h1 := chs_len_le (m := m) s (lo + 1)
      have h2 := chs_len_le (m := m) (s + 1) (lo + 1)
      have e2 : (m - lo).toNat = (m - (lo + 1)).toNat + 1 := by omega
      rw [e2, Nat.pow_succ]
      omega
    · have e : chs m (s + 1) lo = [] := by
        show ((rng lo m).flatMap fun x => (chs m s (x + 1)).map (x :: ·)) = _
        rw [rng_nil (by omega)]
        rfl
      rw [e]
      exact Nat.zero_le _
termination_by s lo => (s, (m - lo).toNat)
end Mc
end

section
set_option maxHeartbeats 8000000
set_option Elab.async false
set_option linter.all false
set_option maxRecDepth 100000
/-! Whole numbers, tuples of them, pairs, as data. -/
namespace Ev
open PySem
/-- a tuple of whole numbers -/
def encT (t : List Int) : PyData := .tuple (t.map PyData.int)
/-- a lot with its worth -/
def encF (p : List Int × Int) : PyData := .tuple [encT p.1, .int p.2]
/-- a number and a lot -/
def encG (p : Int × List Int) : PyData := .tuple [.int p.1, encT p.2]
theorem rngL_eq (lo m : Int) : rngL lo (m - lo).toNat = (Mc.rng lo m).map PyData.int := by
  unfold rngL Mc.rng
  rw [List.map_map]
  rfl
/-! operations -/
theorem pListT (t : List Int) : pList [encT t] = some (.lst (t.map PyData.int)) := rfl
theorem pTupleL (t : List Int) : pTuple [.list (t.map PyData.int)] = some (.sh (encT t)) := rfl
theorem pLenT (t : List Int) : pLen [encT t] = some (.sh (.int t.length)) := by
  show some (Slot.sh (.int ((t.map PyData.int).length : Nat))) = _
  rw [List.length_map]
theorem pLenL {α : Type} {enc : α → PyData} (l : List α) : pLen [.list (l.map enc)] = some (.sh (.int l.length)) := by
  show some (Slot.sh (.int ((l.map enc).length : Nat))) = _
  rw [List.length_map]
theorem pAddTs {t : List Int} {x : Int} (h : t.length + 1 ≤ 16777216) : pAdd [encT t, .tuple [.int x]] = some (.sh (encT (t ++ [x]))) := by
  unfold encT
  rw [pAddT (by simpa using h)]
  simp
theorem atI_last (a : Int) (t : List Int) : L2.atI (PyData.int a :: t.map PyData.int) (-1) = some (.int ((a :: t).getLast (by simp))) := by
  unfold L2.atI L2.ixN
  have h1 : ¬ (0 : Int) ≤ -1 := by decide
  have h2 : -((PyData.int a :: t.map PyData.int).length : Int) ≤ -1 := by simp only [List.length_cons]; omega
  have h3 : (-1 + ((PyData.int a :: t.map PyData.int).length : Int)).toNat = t.length := by simp only [List.length_cons, List.length_map]; omega
  rw [if_neg h1, if_pos h2, h3]
  show (PyData.int a :: t.map PyData.int)[t.length]? = _
  have : (PyData.int a :: t.map PyData.int) = (a :: t).map PyData.int := rfl
  rw [this, List.getElem?_map, List.getLast_eq_getElem]
  simp
theorem atI_ints {ns : List Int} {k : Int} (h0 : 0 ≤ k) (h1 : k < (ns.length : Int)) : L2.atI (ns.map PyData.int) k = some (.int (ns.getD k.toNat 0)) := by
  obtain ⟨j, rfl⟩ := Int.eq_ofNat_of_zero_le h0
  have hj : j < ns.length := by omega
  rw [atI_nat (by simpa using hj), Int.toNat_natCast, List.getElem?_map, List.getElem?_eq_getElem hj, List.getD_eq_getElem?_getD, List.getElem?_eq_getElem hj]
  rfl
theorem asg_pairF {i j : Nat} {p : List Int × Int} {r : Ro} : asg (.tup (.cons (.name i) (.cons (.name j) .nil))) (encF p) r = asgs (.cons (.name i) (.cons (.name j) .nil)) [encT p.1, .int p.2] r := by simp only [encF, asg]
theorem asg_pairG {i j : Nat} {p : Int × List Int} {r : Ro} : asg (.tup (.cons (.name i) (.cons (.name j) .nil))) (encG p) r = asgs (.cons (.name i) (.cons (.name j) .nil)) [.int p.1, encT p.2] r := by simp only [encG, asg]
theorem map_at {α : Type} {enc : α → PyData} {l : List α} {i : Nat} (h : i < l.length) : (l.map enc)[i]? = some (enc l[i]) := by simp [h]
theorem map_erase {α : Type} {enc : α → PyData} (l : List α) (i : Nat) : (l.map enc).eraseIdx i = (l.eraseIdx i).map enc := by
  induction l generalizing i with
  | nil => simp
  | cons a l ih => cases i <;> simp [ih]
theorem erase_perm {α : Type} : ∀ {l : List α} {i : Nat} (h : i < l.length), (l[i] :: l.eraseIdx i).Perm l
  | a :: l, 0, _ => by simp
  | a :: l, i + 1, h => by
    have ih := erase_perm (l := l) (i := i) (by simpa using h)
    simp only [List.getElem_cons_succ, List.eraseIdx_cons_succ]
    exact (List.Perm.swap _ _ _).trans (ih.cons a)
theorem erase_len {α : Type} {l : List α} {i : Nat} (h : i < l.length) : (l.eraseIdx i).length + 1 = l.length := by
  rw [List.length_eraseIdx_of_lt h]; omega
/-! equality -/
theorem eqvAll_map {α : Type} [DecidableEq α] {enc : α → PyData} (h : ∀ a b, PyData.eqv (enc a) (enc b) = decide (a = b)) : ∀ l m : List α, PyData.eqvAll (l.map enc) (m.map enc) = decide (l = m)
  | [], [] => by simp [PyData.eqvAll]
  | [], _ :: _ => by simp [PyData.eqvAll]
  | _ :: _, [] => by simp [PyData.eqvAll]
  | a :: l, b :: m => by simp only [List.map_cons, PyData.eqvAll, h, eqvAll_map h l m, List.cons.injEq, Bool.decide_and]
theorem eqv_int (a b : Int) : PyData.eqv (.int a) (.int b) = decide (a = b) := by simp only [PyData.eqv]; rfl
theorem eqv_encT (a b : List Int) : PyData.eqv (encT a) (encT b) = decide (a = b) := by simp only [encT, PyData.eqv, eqvAll_map eqv_int]
theorem eqv_encF (a b : List Int × Int) : PyData.eqv (encF a) (encF b) = decide (a = b) := by
  obtain ⟨a1, a2⟩ := a
  obtain ⟨b1, b2⟩ := b
  simp only [encF, PyData.eqv, PyData.eqvAll, eqv_encT, eqv_int, Prod.mk.injEq, Bool.decide_and, Bool.and_true]
  by_cases h : a1 = b1 <;> by_cases h2 : a2 = b2 <;> simp [h, h2]
theorem eqv_encG (a b : Int × List Int) : PyData.eqv (encG a) (encG b) = decide (a = b) := by
  obtain ⟨a1, a2⟩ := a
  obtain ⟨b1, b2⟩ := b
  simp only [encG, PyData.eqv, PyData.eqvAll, eqv_encT, eqv_int, Prod.mk.injEq, Bool.decide_and, Bool.and_true]
  by_cases h : a1 = b1 <;> by_cases h2 : a2 = b2 <;> simp [h, h2]
/-! shape -/
theorem lay_map {α : Type} {enc : α → PyData} (h : ∀ a, (enc a).canLay0 = true) : ∀ l : List α, PyData.canLayAll0 (l.map enc) = true
  | [] => by simp [PyData.canLayAll0]
  | a :: l => by simp only [List.map_cons, PyData.canLayAll0, h, lay_map h l, Bool.and_self]
theorem depth_map {α : Type} {enc : α → PyData} {k : Nat} (h : ∀ a, (enc a).depth ≤ k) : ∀ l : List α, PyData.depthAll (l.map enc) ≤ k
  | [] => by simp [PyData.depthAll]
  | a :: l => by
    have h1 := h a
    have h2 := depth_map h l
    simp only [List.map_cons, PyData.depthAll]
    omega
theorem lay_int (i : Int) : (PyData.int i).canLay0 = true := by simp [PyData.canLay0]
theorem depth_int (i : Int) : (PyData.int i).depth ≤ 0 := by simp [PyData.depth]
theorem lay_encT (t : List Int) : (encT t).canLay0 = true := by simp only [encT, PyData.canLay0, lay_map lay_int]
theorem depth_encT (t : List Int) : (encT t).depth ≤ 1 := by
  have := depth_map depth_int t
  simp only [encT, PyData.depth]
  omega
theorem lay_encF (t : List Int × Int) : (encF t).canLay0 = true := by simp [encF, PyData.canLay0, PyData.canLayAll0, lay_encT]
theorem depth_encF (t : List Int × Int) : (encF t).depth ≤ 2 := by
  have := depth_encT t.1
  simp only [encF, PyData.depth, PyData.depthAll]
  omega
theorem lay_encG (t : Int × List Int) : (encG t).canLay0 = true := by simp [encG, PyData.canLay0, PyData.canLayAll0, lay_encT]
theorem depth_encG (t : Int × List Int) : (encG t).depth ≤ 2 := by
  have := depth_encT t.2
  simp only [encG, PyData.depth, PyData.depthAll]
  omega
theorem shp_of {d : PyData} {k : Nat} (h : d.canLay0 = true) (h2 : d.depth ≤ k) (hk : k ≤ 64) : shp d = true := by
  unfold shp SeqAt.shaped
  rw [h, Bool.true_and]
  exact decide_eq_true (by omega)
theorem shp_list {α : Type} {enc : α → PyData} {k : Nat} (h : ∀ a, (enc a).canLay0 = true) (h2 : ∀ a, (enc a).depth ≤ k) (hk : k ≤ 60) (l : List α) : shp (.list (l.map enc)) = true := by
  refine shp_of (k := k + 1) (by simp only [PyData.canLay0, lay_map h]) ?_ (by omega)
  have := depth_map h2 l
  simp only [PyData.depth]
  omega
theorem shp_encT (t : List Int) : shp (encT t) = true := shp_of (lay_encT t) (depth_encT t) (by decide)
theorem shp_encF (t : List Int × Int) : shp (encF t) = true := shp_of (lay_encF t) (depth_encF t) (by decide)
/-! == and != -/
theorem pEq_of {a b : PyData} (h : shp a = true) (h2 : shp b = true) : pEq [a, b] = some (.sh (.bool (PyData.eqv a b))) := by
  unfold pEq
  split
  · rename_i e; cases e; simp only [PyData.eqv]
  · rename_i e; cases e; rw [if_pos (by rw [h, h2]; rfl)]
  · rename_i e; exact absurd rfl (e a b)
theorem pNe_of {a b : PyData} (h : shp a = true) (h2 : shp b = true) : pNe [a, b] = some (.sh (.bool (!PyData.eqv a b))) := by
  unfold pNe
  split
  · rename_i e; cases e; simp only [PyData.eqv]
  · rename_i e; cases e; rw [if_pos (by rw [h, h2]; rfl)]
  · rename_i e; exact absurd rfl (e a b)
theorem eqv_list {α : Type} [DecidableEq α] {enc : α → PyData} (h : ∀ a b, PyData.eqv (enc a) (enc b) = decide (a = b)) (l m : List α) : PyData.eqv (.list (l.map enc)) (.list (m.map enc)) = decide (l = m) := by simp only [PyData.eqv, eqvAll_map h]
theorem pEqF (l m : List (List Int × Int)) : pEq [.list (l.map encF), .list (m.map encF)] = some (.sh (.bool (decide (l = m)))) := by
  rw [pEq_of (shp_list lay_encF depth_encF (by decide) l) (shp_list lay_encF depth_encF (by decide) m), eqv_list eqv_encF]
theorem pNeF (l m : List (List Int × Int)) : pNe [.list (l.map encF), .list (m.map encF)] = some (.sh (.bool (!decide (l = m)))) := by
  rw [pNe_of (shp_list lay_encF depth_encF (by decide) l) (shp_list lay_encF depth_encF (by decide) m), eqv_list eqv_encF]
theorem pEqTs (l m : List (List Int)) : pEq [.list (l.map encT), .list (m.map encT)] = some (.sh (.bool (decide (l = m)))) := by
  rw [pEq_of (shp_list lay_encT depth_encT (by decide) l) (shp_list lay_encT depth_encT (by decide) m), eqv_list eqv_encT]
theorem pNeTs (l m : List (List Int)) : pNe [.list (l.map encT), .list (m.map encT)] = some (.sh (.bool (!decide (l = m)))) := by
  rw [pNe_of (shp_list lay_encT depth_encT (by decide) l) (shp_list lay_encT depth_encT (by decide) m), eqv_list eqv_encT]
theorem pEqT (l m : List Int) : pEq [encT l, encT m] = some (.sh (.bool (decide (l = m)))) := by rw [pEq_of (shp_encT l) (shp_encT m), eqv_encT]
theorem pEqLI (l m : List Int) : pEq [.list (l.map PyData.int), .list (m.map PyData.int)] = some (.sh (.bool (decide (l = m)))) := by
  rw [pEq_of (shp_list lay_int depth_int (by decide) l) (shp_list lay_int depth_int (by decide) m), eqv_list eqv_int]
theorem pNeLI (l m : List Int) : pNe [.list (l.map PyData.int), .list (m.map PyData.int)] = some (.sh (.bool (!decide (l = m)))) := by
  rw [pNe_of (shp_list lay_int depth_int (by decide) l) (shp_list lay_int depth_int (by decide) m), eqv_list eqv_int]
/-! order -/
theorem alike_map {α : Type} {enc : α → PyData} (h : ∀ a b, PySem.W.alike (enc a) (enc b) = true) : ∀ l m : List α, PySem.W.alikeAll (l.map enc) (m.map enc) = true
  | [], _ => by simp [PySem.W.alikeAll]
  | _ :: _, [] => by simp [PySem.W.alikeAll]
  | a :: l, b :: m => by simp only [List.map_cons, PySem.W.alikeAll, h, alike_map h l m, Bool.and_self]
theorem alike_int (a b : Int) : PySem.W.alike (.int a) (.int b) = true := by simp [PySem.W.alike]
theorem alike_encT (a b : List Int) : PySem.W.alike (encT a) (encT b) = true := by simp only [encT, PySem.W.alike, alike_map alike_int]
theorem alike_encF (a b : List Int × Int) : PySem.W.alike (encF a) (encF b) = true := by simp [encF, PySem.W.alike, PySem.W.alikeAll, alike_encT]
theorem alike_encG (a b : Int × List Int) : PySem.W.alike (encG a) (encG b) = true := by simp [encG, PySem.W.alike, PySem.W.alikeAll, alike_encT]
theorem dataLt_encT (a b : List Int) : PySem.W.dataLt (encT a) (encT b) = decide (a < b) := by
  have h := congrFun (congrFun (PySem.W.dataLe_rows (β := List Int) id) b) a
  have h' : (!PySem.W.dataLt (encT a) (encT b)) = decide (b ≤ a) := h
  have e : PySem.W.dataLt (encT a) (encT b) = !decide (b ≤ a) := by rw [← h', Bool.not_not]
  rw [e]
  by_cases hl : a < b
  · simp [hl]
  · simp only [hl, decide_false, Bool.not_eq_false', decide_eq_true_eq]
    exact List.not_lt.mp hl
/-- a lot with a worth, as tuples are sorted -/
def ltF (a b : List Int × Int) : Prop := a.1 < b.1 ∨ (a.1 = b.1 ∧ a.2 < b.2)
instance (a b : List Int × Int) : Decidable (ltF a b) := by unfold ltF; exact inferInstance
def ltG (a b : Int × List Int) : Prop := a.1 < b.1 ∨ (a.1 = b.1 ∧ a.2 < b.2)
instance (a b : Int × List Int) : Decidable (ltG a b) := by unfold ltG; exact inferInstance
theorem dataLt_encF (a b : List Int × Int) : PySem.W.dataLt (encF a) (encF b) = decide (ltF a b) := by
  unfold encF ltF
  rw [PySem.W.dataLt_pair (alike_encT _ _) (alike_int _ _), eqv_encT, eqv_int, dataLt_encT, PySem.W.dataLt_int]
  by_cases h : a.1 = b.1
  · have : ¬ b.1 < b.1 := List.lt_irrefl _
    by_cases h2 : a.2 = b.2
    · simp [h, h2]
    · simp [h, h2, this]
  · simp [h]
theorem dataLt_encG (a b : Int × List Int) : PySem.W.dataLt (encG a) (encG b) = decide (ltG a b) := by
  unfold encG ltG
  rw [PySem.W.dataLt_pair (alike_int _ _) (alike_encT _ _), eqv_encT, eqv_int, dataLt_encT, PySem.W.dataLt_int]
  by_cases h : a.1 = b.1
  · by_cases h2 : a.2 = b.2
    · simp [h, h2]
    · simp [h, h2]
  · simp [h]
def leF (a b : List Int × Int) : Bool := !decide (ltF b a)
def leG (a b : Int × List Int) : Bool := !decide (ltG b a)
theorem sort_map {α : Type} {enc : α → PyData} {le : α → α → Bool} (h : ∀ a b, leD (enc a) (enc b) = le a b) (l : List α) : (l.map enc).mergeSort leD = (l.mergeSort le).map enc :=
  (List.map_mergeSort fun a _ b _ => (h a b).symm).symm
theorem sortB_map {α : Type} {enc : α → PyData} {k : Nat} {l : List α} (h1 : ∀ a b, PySem.W.alike (enc a) (enc b) = true) (h2 : (l.map enc).all neTup = true ∨ (l.map enc).all noTup = true) (h3 : ∀ a, (enc a).canLay0 = true) (h4 : ∀ a, (enc a).depth ≤ k) (hk : k ≤ 60) : sortB (l.map enc) = true := by
  unfold sortB alikeB
  simp only [Bool.and_eq_true, Bool.or_eq_true]
  refine ⟨⟨?_, h2⟩, ?_⟩
  · simp only [List.all_eq_true, List.mem_map, forall_exists_index, and_imp, forall_apply_eq_imp_iff₂]
    exact fun a _ b _ => h1 a b
  · simp only [List.all_eq_true, List.mem_map, forall_exists_index, and_imp, forall_apply_eq_imp_iff₂, Bool.and_eq_true, decide_eq_true_eq]
    exact fun a _ => ⟨h3 a, Nat.le_trans (h4 a) hk⟩
theorem pSortF (l : List (List Int × Int)) : pSorted [.list (l.map encF)] = some (.lst ((l.mergeSort leF).map encF)) := by
  have h : sortB (l.map encF) = true := sortB_map alike_encF (.inl (by simp [List.all_eq_true, neTup, encF])) lay_encF depth_encF (by decide)
  show (if _ then _ else _) = _
  rw [if_pos h, sort_map (le := leF)]
  intro a b
  simp only [leD, leF, dataLt_encF]
theorem pSortG (l : List (Int × List Int)) : pSorted [.list (l.map encG)] = some (.lst ((l.mergeSort leG).map encG)) := by
  have h : sortB (l.map encG) = true := sortB_map alike_encG (.inl (by simp [List.all_eq_true, neTup, encG])) lay_encG depth_encG (by decide)
  show (if _ then _ else _) = _
  rw [if_pos h, sort_map (le := leG)]
  intro a b
  simp only [leD, leG, dataLt_encG]
theorem pSortI (l : List Int) : pSorted [.list (l.map PyData.int)] = some (.lst ((l.mergeSort fun a b => decide (a ≤ b)).map PyData.int)) := by
  have h : sortB (l.map PyData.int) = true := sortB_map alike_int (.inr (by simp [List.all_eq_true, noTup])) lay_int depth_int (by decide)
  show (if _ then _ else _) = _
  rw [if_pos h, sort_map (le := fun a b => decide (a ≤ b))]
  intro a b
  simp only [leD, PySem.W.dataLt_int]
  by_cases h : a ≤ b
  · have : ¬ b < a := by omega
    simp [h, this]
  · have : b < a := by omega
    simp [h, this]
theorem lt_tri (a b : List Int) : a < b ∨ a = b ∨ b < a := by
  by_cases h : a < b
  · exact .inl h
  · by_cases h2 : b < a
    · exact .inr (.inr h2)
    · exact .inr (.inl (List.le_antisymm (List.not_lt.mp h2) (List.not_lt.mp h)))
theorem ltF_tri (a b : List Int × Int) : ltF a b ∨ a = b ∨ ltF b a := by
  unfold ltF
  obtain ⟨a1, a2⟩ := a
  obtain ⟨b1, b2⟩ := b
  rcases lt_tri a1 b1 with h | h | h
  · exact .inl (.inl h)
  · subst h
    rcases Int.lt_trichotomy a2 b2 with h | h | h
    · exact .inl (.inr ⟨rfl, h⟩)
    · exact .inr (.inl (by rw [h]))
    · exact .inr (.inr (.inr ⟨rfl, h⟩))
  · exact .inr (.inr (.inl h))
theorem ltF_irr (a : List Int × Int) : ¬ ltF a a := by
  rintro (h | ⟨_, h⟩)
  · exact List.lt_irrefl _ h
  · omega
theorem ltF_trans {a b c : List Int × Int} (h : ltF a b) (g : ltF b c) : ltF a c := by
  unfold ltF at *
  rcases h with h | ⟨h1, h2⟩
  · rcases g with g | ⟨g1, g2⟩
    · exact .inl (List.lt_trans h g)
    · exact .inl (by rw [← g1]; exact h)
  · rcases g with g | ⟨g1, g2⟩
    · exact .inl (by rw [h1]; exact g)
    · exact .inr ⟨h1.trans g1, by omega⟩
theorem ltG_tri (a b : Int × List Int) : ltG a b ∨ a = b ∨ ltG b a := by
  unfold ltG
  obtain ⟨a1, a2⟩ := a
  obtain ⟨b1, b2⟩ := b
  rcases Int.lt_trichotomy a1 b1 with h | h | h
  · exact .inl (.inl h)
  · subst h
    rcases lt_tri a2 b2 with h | h | h
    · exact .inl (.inr ⟨rfl, h⟩)
    · exact .inr (.inl (by rw [h]))
    · exact .inr (.inr (.inr ⟨rfl, h⟩))
  · exact .inr (.inr (.inl h))
theorem ltG_irr (a : Int × List Int) : ¬ ltG a a := by
  rintro (h | ⟨_, h⟩)
  · omega
  · exact List.lt_irrefl _ h
theorem ltG_trans {a b c : Int × List Int} (h : ltG a b) (g : ltG b c) : ltG a c := by
  unfold ltG at *
  rcases h with h | ⟨h1, h2⟩
  · rcases g with g | ⟨g1, g2⟩
    · exact .inl (by omega)
    · exact .inl (by omega)
  · rcases g with g | ⟨g1, g2⟩
    · exact .inl (by omega)
    · exact .inr ⟨h1.trans g1, List.lt_trans h2 g2⟩
/-- sorting by a strict order -/
structure Lin {α : Type} (lt : α → α → Prop) : Prop where
  tri : ∀ a b, lt a b ∨ a = b ∨ lt b a
  irr : ∀ a, ¬ lt a a
  trans : ∀ {a b c}, lt a b → lt b c → lt a c
theorem linF : Lin ltF := ⟨ltF_tri, ltF_irr, ltF_trans⟩
theorem linG : Lin ltG := ⟨ltG_tri, ltG_irr, ltG_trans⟩
section
variable {α : Type} {lt : α → α → Prop} [DecidableRel lt]
def leOf (lt : α → α → Prop) [DecidableRel lt] (a b : α) : Bool := !decide (lt b a)
theorem Lin.sorted (L : Lin lt) (l : List α) : (l.mergeSort (leOf lt)).Pairwise fun a b => ¬ lt b a := by
  have h := List.pairwise_mergeSort (le := leOf lt) (fun a b c h1 h2 => ?_) (fun a b => ?_) l
  · exact h.imp fun {a b} q => by simpa [leOf] using q
  · simp only [leOf, Bool.not_eq_true', decide_eq_false_iff_not] at h1 h2 ⊢
    intro z
    rcases L.tri a b with q | q | q
    · exact h2 (L.trans z q)
    · subst q; exact h2 z
    · exact h1 q
  · simp only [leOf, Bool.or_eq_true, Bool.not_eq_true', decide_eq_false_iff_not]
    by_cases q : lt b a
    · exact .inr fun z => L.irr a (L.trans z q)
    · exact .inl q
theorem Lin.uniq (L : Lin lt) {l m : List α} (hp : l.Perm m) (hl : l.Pairwise fun a b => ¬ lt b a) (hm : m.Pairwise fun a b => ¬ lt b a) : l = m := by
  refine List.Perm.eq_of_pairwise ?_ hl hm hp
  intro a b _ _ h1 h2
  rcases L.tri a b with q | q | q
  · exact absurd q h2
  · exact q
  · exact absurd q h1
theorem Lin.sort_perm (L : Lin lt) {l m : List α} (hp : l.Perm m) : l.mergeSort (leOf lt) = m.mergeSort (leOf lt) :=
  L.uniq ((List.mergeSort_perm l _).trans (hp.trans (List.mergeSort_perm m _).symm)) (L.sorted l) (L.sorted m)
end
theorem leF_of : leF = leOf ltF := rfl
theorem leG_of : leG = leOf ltG := rfl
/-! tuples compared -/
theorem cmp_T (a b : List Int) : cmpOk (a.map PyData.int) (b.map PyData.int) = true := by
  unfold cmpOk
  have h1 := shp_encT a
  have h2 := shp_encT b
  have h3 := alike_encT a b
  unfold encT at h1 h2 h3
  rw [h1, h2, h3]; rfl
theorem nlt_T (a b : List Int) : (!PySem.W.dataLt (encT a) (encT b)) = decide (b ≤ a) := by
  rw [dataLt_encT]
  by_cases q : a < b
  · have : ¬ b ≤ a := fun z => List.not_lt.mpr z q
    simp [q, this]
  · have : b ≤ a := List.not_lt.mp q
    simp [q, this]
theorem pLtT (a b : List Int) : pLt [encT a, encT b] = some (.sh (.bool (decide (a < b)))) := by
  show (if cmpOk (a.map PyData.int) (b.map PyData.int) = true then some (Slot.sh (.bool (PySem.W.dataLt (encT a) (encT b)))) else none) = _
  rw [if_pos (cmp_T a b), dataLt_encT]
theorem pGeT (a b : List Int) : pGe [encT a, encT b] = some (.sh (.bool (decide (b ≤ a)))) := by
  show (if cmpOk (a.map PyData.int) (b.map PyData.int) = true then some (Slot.sh (.bool (!PySem.W.dataLt (encT a) (encT b)))) else none) = _
  rw [if_pos (cmp_T a b), nlt_T]
theorem pLeT (a b : List Int) : pLe [encT a, encT b] = some (.sh (.bool (decide (a ≤ b)))) := by
  show (if cmpOk (a.map PyData.int) (b.map PyData.int) = true then some (Slot.sh (.bool (!PySem.W.dataLt (encT b) (encT a)))) else none) = _
  rw [if_pos (cmp_T a b), nlt_T]
theorem itemF0 (p : List Int × Int) : pItem [encF p, .int 0] = some (.sh (encT p.1)) := by
  show (L2.atI [encT p.1, .int p.2] 0).map Slot.sh = _
  rw [atI_0]; rfl
theorem itemF1 (p : List Int × Int) : pItem [encF p, .int 1] = some (.sh (.int p.2)) := by
  show (L2.atI [encT p.1, .int p.2] 1).map Slot.sh = _
  rw [atI_s]; rfl
end Ev
end

section
set_option maxHeartbeats 8000000
set_option Elab.async false
set_option linter.all false
set_option maxRecDepth 100000
/-! How long a text repr tells at most. -/
namespace Lib
open PySem Ev
mutual
def wt : PyData → Nat
  | .none => 4
  | .bool _ => 5
  | .int _ => 1921
  | .str s => (reprText s).length
  | .list ds => wtAll ds + 3
  | .tuple ds => wtAll ds + 3
  | .dict _ => 0
def wtAll : List PyData → Nat
  | [] => 0
  | d :: ds => wt d + 2 + wtAll ds
end
theorem textFrom_le : ∀ (ts : List Str) (k : Nat) (acc : Str), (textFrom k acc ts).length ≤ acc.length + (ts.map fun t => t.length + 2).sum
  | [], k, acc => by simp [textFrom]
  | t :: r, k, acc => by
    have ih := textFrom_le r (k + 1) (acc ++ (if k > 0 then ", " else "" : String) ++ t)
    have e : (acc ++ (if k > 0 then ", " else "" : String) ++ t).length = acc.length + (if k > 0 then 2 else 0) + t.length := by
      rw [strLen_append, strLen_append]
      split <;> rfl
    rw [e] at ih
    simp only [List.map_cons, List.sum_cons]
    refine Nat.le_trans ih ?_
    split <;> omega
theorem listText_le (ts : List Str) : (listText ts).length ≤ (ts.map fun t => t.length + 2).sum + 3 := by
  unfold listText
  rw [strLen_append]
  have := textFrom_le ts 0 "["
  have e1 : (("[" : String) : Str).length = 1 := rfl
  have e2 : (("]" : String) : Str).length = 1 := rfl
  omega
theorem join_le (ts : List Str) : (Str.join ", " ts).length ≤ (ts.map fun t => t.length + 2).sum := by
  match ts with
  | [] => exact Nat.zero_le _
  | [x] => show x.length ≤ _; simp
  | x :: y :: r =>
    have ih := join_le (y :: r)
    show (x ++ ", " ++ Str.join ", " (y :: r)).length ≤ _
    rw [strLen_append, strLen_append]
    have e2 : ((", " : String) : Str).length = 2 := rfl
    rw [List.map_cons, List.sum_cons]
    omega
theorem tupleText_le (ts : List Str) : (tupleText ts).length ≤ (ts.map fun t => t.length + 2).sum + 3 := by
  unfold tupleText
  rw [strLen_append, strLen_append]
  have h := join_le ts
  have e1 : (("(" : String) : Str).length = 1 := rfl
  have e2 : ((",)" : String) : Str).length = 2 := rfl
  have e3 : ((")" : String) : Str).length = 1 := rfl
  split <;> omega
mutual
theorem shown_le : ∀ d : PyData, d.canLay0 = true → d.showable = true → d.shown.length ≤ wt d
  | .none, _, _ => by simp only [PyData.shown, wt]; decide +kernel
  | .bool b, _, _ => by cases b <;> (simp only [PyData.shown, wt]; decide +kernel)
  | .int i, _, h => by
    simp only [PyData.shown, wt]
    exact PyProof.Rows.int_text_len_1921 (by simpa [PyData.showable] using h)
  | .str s, _, _ => by simp only [PyData.shown, wt]; exact Nat.le_refl _
  | .list ds, c, h => by
    simp only [PyData.shown, wt]
    have := shownAll_le ds (by simpa [PyData.canLay0] using c) (by simpa [PyData.showable] using h)
    have h2 := listText_le (PyData.shownAll ds)
    omega
  | .tuple ds, c, h => by
    simp only [PyData.shown, wt]
    have := shownAll_le ds (by simpa [PyData.canLay0] using c) (by simpa [PyData.showable] using h)
    have h2 := tupleText_le (PyData.shownAll ds)
    omega
  | .dict _, c, _ => by simp [PyData.canLay0] at c
theorem shownAll_le : ∀ ds : List PyData, PyData.canLayAll0 ds = true → PyData.showableAll ds = true → ((PyData.shownAll ds).map fun t => t.length + 2).sum ≤ wtAll ds
  | [], _, _ => by simp [PyData.shownAll, wtAll]
  | d :: ds, c, h => by
    simp only [PyData.canLayAll0, Bool.and_eq_true] at c
    simp only [PyData.showableAll, Bool.and_eq_true] at h
    have h1 := shown_le d c.1 h.1
    have h2 := shownAll_le ds c.2 h.2
    simp only [PyData.shownAll, wtAll, List.map_cons, List.sum_cons]
    omega
end
/-- data that repr tells: at most N signs, at most k deep -/
structure rp (N k : Nat) (d : PyData) : Prop where
  lay : d.canLay0 = true
  dep : d.depth ≤ k
  shw : d.showable = true
  len : wt d ≤ N
theorem rp.mono {N k N' k' : Nat} {d : PyData} (h : rp N k d) (h1 : N ≤ N') (h2 : k ≤ k') : rp N' k' d := ⟨h.lay, Nat.le_trans h.dep h2, h.shw, Nat.le_trans h.len h1⟩
theorem rp.shp {N k : Nat} {d : PyData} (h : rp N k d) (hk : k ≤ 64) : Ev.shp d = true := shp_of h.lay h.dep hk
theorem rp.repr {N k : Nat} {d : PyData} (h : rp N k d) (hk : k ≤ 64) (hN : N ≤ 16777216) : pRepr [d] = some (.sh (.str d.shown)) := by
  show (if (Ev.shp d && d.showable && small d.shown.length) = true then _ else _) = _
  rw [if_pos]
  rw [h.shp hk, h.shw, small_of (Nat.le_trans (shown_le d h.lay h.shw) (Nat.le_trans h.len hN))]
  rfl
theorem rp_none : rp 4 0 .none := ⟨rfl, by simp [PyData.depth], rfl, by simp [wt]⟩
theorem rp_bool (b : Bool) : rp 5 0 (.bool b) := ⟨rfl, by simp [PyData.depth], rfl, by simp [wt]⟩
theorem rp_int {i : Int} (h : i.natAbs.log2 < 1920) : rp 1921 0 (.int i) := ⟨lay_int i, depth_int i, by simp [PyData.showable, h], by simp [wt]⟩
theorem rp_small {i : Int} (h : i.natAbs < 18446744073709551616) : rp 1921 0 (.int i) := rp_int (log2_small h)
theorem rp_str (s : Str) (h : PyData.strOk s = true) : rp (reprText s).length 0 (.str s) := ⟨by simpa [PyData.canLay0] using h, by simp [PyData.depth], rfl, by simp [wt]⟩
theorem rp_all {N k : Nat} : ∀ {ds : List PyData}, (∀ x ∈ ds, rp N k x) → PyData.canLayAll0 ds = true ∧ PyData.depthAll ds ≤ k ∧ PyData.showableAll ds = true ∧ wtAll ds ≤ ds.length * (N + 2)
  | [], _ => ⟨rfl, by simp [PyData.depthAll], rfl, by simp [wtAll]⟩
  | d :: ds, h => by
    have h1 := h d (by simp)
    obtain ⟨a, b, c, e⟩ := rp_all fun x hx => h x (List.mem_cons_of_mem d hx)
    refine ⟨by simp [PyData.canLayAll0, h1.lay, a], ?_, by simp [PyData.showableAll, h1.shw, c], ?_⟩
    · simp only [PyData.depthAll]; have := h1.dep; omega
    · simp only [wtAll, List.length_cons, Nat.add_mul, Nat.one_mul]; have := h1.len; omega
theorem rp_tuple {N k L : Nat} {ds : List PyData} (h : ∀ x ∈ ds, rp N k x) (hl : ds.length ≤ L) : rp (L * (N + 2) + 3) (k + 1) (.tuple ds) := by
  obtain ⟨a, b, c, e⟩ := rp_all h
  have := Nat.mul_le_mul_right (N + 2) hl
  exact ⟨by simpa [PyData.canLay0] using a, by simp only [PyData.depth]; omega, by simpa [PyData.showable] using c, by simp only [wt]; omega⟩
theorem rp_list {N k L : Nat} {ds : List PyData} (h : ∀ x ∈ ds, rp N k x) (hl : ds.length ≤ L) : rp (L * (N + 2) + 3) (k + 1) (.list ds) := by
  obtain ⟨a, b, c, e⟩ := rp_all h
  have := Nat.mul_le_mul_right (N + 2) hl
  exact ⟨by simpa [PyData.canLay0] using a, by simp only [PyData.depth]; omega, by simpa [PyData.showable] using c, by simp only [wt]; omega⟩
theorem rp_encT {t : List Int} {L : Nat} (h : ∀ x ∈ t, x.natAbs < 18446744073709551616) (hl : t.length ≤ L) : rp (L * 1923 + 3) 1 (encT t) := by
  refine rp_tuple (N := 1921) (k := 0) (fun x hx => ?_) (by simpa using hl)
  obtain ⟨n, hn, rfl⟩ := List.mem_map.mp hx
  exact rp_small (h n hn)
/-- texts compared -/
theorem pNeS (s : Str) : pNe [.str s, .str s] = some (.sh (.bool false)) := by
  show some (Slot.sh (.bool (!(s == s)))) = _
  simp
theorem pEqS (s : Str) : pEq [.str s, .str s] = some (.sh (.bool true)) := by
  show some (Slot.sh (.bool (s == s))) = _
  simp
theorem repr_ld : pRepr [.list [dictD true []]] = some (.sh (.str (Str.ofString "[{}]"))) := by
  have h0 : Ev.shp (.list [dictD true []]) = false := by decide +kernel
  unfold pRepr
  simp only [h0, Bool.false_and, Bool.false_eq_true, if_false]
  rfl
theorem repr_d : pRepr [dictD true []] = some (.sh (.str (Str.ofString "{}"))) := by
  have h0 : Ev.shp (dictD true []) = false := by decide +kernel
  unfold pRepr
  simp only [h0, Bool.false_and, Bool.false_eq_true, if_false]
  rfl
end Lib
end

section
set_option maxHeartbeats 8000000
set_option Elab.async false
set_option linter.all false
set_option maxRecDepth 100000
namespace Lib
open PySem Ev

def b_law_take : CSs := ((.cons (.ite (.op .gt (.cons (.op .item (.cons (.var 0) (.cons (.cst (.int 0)) .nil))) (.cons (.cst (.int 0)) .nil))) (.cons (.set (.name 2) (.op .mod (.cons (.op .item (.cons (.var 0) (.cons (.cst (.int 0)) .nil))) (.cons (.var 1) .nil))))
    (.cons (.setItem 0 (.cst (.int 0)) (.op .fdiv (.cons (.op .item (.cons (.var 0) (.cons (.cst (.int 0)) .nil))) (.cons (.var 1) .nil))))
    (.cons (.ret (.var 2))
    .nil))) .nil)
    (.cons (.setItem 0 (.cst (.int 1)) (.op .mod (.cons (.op .add (.cons (.op .mul (.cons (.op .item (.cons (.var 0) (.cons (.cst (.int 1)) .nil))) (.cons (.cst (.int 39373)) .nil))) (.cons (.cst (.int 11)) .nil))) (.cons (.cst (.int 2147483647)) .nil))))
    (.cons (.ret (.op .mod (.cons (.op .fdiv (.cons (.op .mod (.cons (.op .mul (.cons (.op .item (.cons (.var 0) (.cons (.cst (.int 1)) .nil))) (.cons (.op .item (.cons (.var 0) (.cons (.cst (.int 1)) .nil))) .nil))) (.cons (.cst (.int 2147483629)) .nil))) (.cons (.cst (.int 64)) .nil))) (.cons (.var 1) .nil))))
    .nil))))
def f_law_take : Fn := ⟨2, 3, [0, 1], b_law_take⟩
def b_law_pool : CSs := ((.cons (.set (.name 2) (.op .len (.cons (.var 0) .nil)))
    (.cons (.ite (.op .lt (.cons (.var 1) (.cons (.op .len (.cons (.var 0) .nil)) .nil))) (.cons (.set (.name 2) (.op .item (.cons (.var 0) (.cons (.var 1) .nil))))
    .nil) .nil)
    (.cons (.set (.name 3) (.op .mod (.cons (.op .mul (.cons (.op .add (.cons (.op .add (.cons (.op .mod (.cons (.var 2) (.cons (.cst (.int 1000000007)) .nil))) (.cons (.op .mul (.cons (.op .mul (.cons (.cst (.int 7368787)) (.cons (.var 1) .nil))) (.cons (.var 1) .nil))) .nil))) (.cons (.cst (.int 5)) .nil))) (.cons (.cst (.int 48271)) .nil))) (.cons (.cst (.int 2147483647)) .nil))))
    (.cons (.ite (.op .lt (.cons (.var 2) (.cons (.op .pow (.cons (.cst (.int 10)) (.cons (.cst (.int 18)) .nil))) .nil))) (.cons (.set (.name 2) (.cst (.int 0)))
    .nil) .nil)
    (.cons (.ret (.lst (.cons (.var 2) (.cons (.var 3) .nil))))
    .nil))))))
def f_law_pool : Fn := ⟨2, 4, [0, 1], b_law_pool⟩
theorem take_ok {fu : Nat} {Phi : Nat → Ro → FR} : TakeS (runF fu Phi f_law_take) := by
  rintro l n ⟨c, s, rfl, hc, hs, hs2⟩ h0 h1
  refine wp_fn rfl rfl ?_
  unfold b_law_take
  simp -implicitDefEqProofs (disch := first | assumption | omega | (simp only [List.length_map, List.length_append, List.length_cons, List.length_nil, List.length_take, List.length_drop, List.length_reverse]; omega)) only [↓wp_var, ↓wp_shr, ↓wp_cst, ↓wp_glob, ↓wp_dnew, ↓wp_sl2, ↓wp_xnew, ↓wp_op, ↓wp_xop, ↓wp_meth, ↓wp_tup, ↓wp_lst, ↓wp_not, ↓wp_and, ↓wp_or, ↓wp_chain, ↓wp_lc, ↓wp_call, ↓wp_pop, ↓wp_evs_nil, ↓wp_evs_cons, ↓wp_rds_nil, ↓wp_rds_var, ↓wp_rds_cst, ↓wp_rds_glob, ↓wp_rds_op, ↓wp_rds_xop, ↓wp_rds_meth, ↓wp_rds_tup, ↓wp_rds_lst, ↓wp_rds_not, ↓wp_rds_and, ↓wp_rds_or, ↓wp_rds_chain, ↓wp_rds_lc, ↓wp_rds_call, ↓wp_rds_pop, ↓wp_rds_shr, ↓wp_rds_dnew, ↓wp_rds_sl2, ↓wp_rds_xnew, ↓wp_evA_nil, ↓wp_evA_ref, ↓wp_evA_own, ↓wp_evA_cst, ↓wp_evA_glob, ↓wp_evA_var, ↓wp_evA_op, ↓wp_evA_xop, ↓wp_evA_meth, ↓wp_evA_tup, ↓wp_evA_lst, ↓wp_evA_lc, ↓wp_evA_call, ↓wp_evA_not, ↓wp_evA_and, ↓wp_evA_or, ↓wp_evA_dnew, ↓wp_evA_sl2, ↓wp_evA_pop, ↓wp_evC_nil, ↓wp_evC_one, ↓wp_evI_rng1, ↓wp_evI_rng2, ↓wp_evI_prs, ↓wp_evI_var, ↓wp_evI_shr, ↓wp_evI_op, ↓wp_evI_xop, ↓wp_evI_lst, ↓wp_evI_tup, ↓wp_evI_call, ↓wp_evI_lc, ↓wp_evI_sl2, ↓wp_exs_nil, ↓wp_exs_cons, ↓kSeq_nx, ↓kSeq_ret, ↓wp_set, ↓wp_setLc, ↓wp_setT, ↓wp_move, ↓wp_aug, ↓wp_ite, ↓wp_for, ↓wp_while, ↓wp_retV, ↓wp_ret_cst, ↓wp_ret_op, ↓wp_ret_xop, ↓wp_ret_meth, ↓wp_ret_tup, ↓wp_ret_lst, ↓wp_ret_not, ↓wp_ret_and, ↓wp_ret_or, ↓wp_ret_chain, ↓wp_ret_lc, ↓wp_ret_call, ↓wp_ret_pop, ↓wp_ret_dnew, ↓wp_ret_sl2, ↓wp_expr, ↓wp_append, ↓wp_extend, ↓wp_setItem, ↓wp_pass, ↓wp_raise0, ↓wp_raise1, ↓wp_try, ↓wp_forStep, ↓wp_lcStep, wp_ok, wp_ex, wp_bad, wpo_some, wpo_none, wpp_some, wpp_none, kTr, kNot, kAnd, kOr, kPl, kDb, kTm, kDs, kDA, kTA, kCons, kEs, kOp, kTup, kLst, kSh, kBack, kBackE, kCall, kChain2, kChainB, kChain1, kChain0, kLc2, kLc, kSeqI, kPrs, kRng1, kRng2b, kRng2, kSl1, kSl2, kSl3, kXn, kPop, kSet, kAsg, kAug, kIte, kFor2, kFor, kRet, kDrop, kApp, kExt, kSetL, kSetD, kSetI, kRaise, eTry, kMove, kRetV, intAtR, isLs, kLe2, kLe, kFn, eFn, kMid_nx, kMid_ret, takeS, dropS, getV, has, toSh_sh, toSh_lst, toSh_dct, rdO, rdOs, lk1, lks, mv1, mvs, putBack, unlks, asgN, asg_name, asg_tupU, asgs_nil, asgs_cons, wipeR, backR, seqI_L, seqI_U, mTy, outL, prim, pAddI, pAddL, pAddT, rg1T, rg2T, smallT, ltT, toNat_nat, pSubI, pFdivI, pModI, pMulI, pPowI, pNeg, pEqI, pNeI, pLtI, pLeI, pGtI, pGeI, pLenLL, pLenU, pLenS, pLenD, pItemL, pItemU, pItemS, pMaxI, pMinI, pListL, pListU, pTupL, pTupU, pIntI, pIntB, pIsiN, pIsiB, pIsiI, pIsiS, pIsiL, pIsiU, pIsiD, tyD, pIs, pIsnot, isNon, pRevL, pRevU, pSlUlo, pSlUhi, pSlLlo, pSlLhi, pSlUlo1, pSlUhi1, pSlLlo1, pSlLhi1, cutP_L, cutP_U, pStrI, ixN_0, ixN_1, ixN_m1, pFld, fldD, pAll, pAny, boolsD, pGet, isImm, List.getElem?_cons_zero, List.getElem?_cons_succ, List.set_cons_zero, List.set_cons_succ, List.length_cons, List.length_nil, List.length_map, List.map_cons, List.map_nil, List.nil_append, List.cons_append, List.append_nil, List.headD_cons, List.tail_cons, List.replicate_succ, List.replicate_zero, Int.cast_ofNat_Int, Int.natCast_one, Int.natCast_zero, Int.reduceEq, Int.reduceLT, Int.reduceLE, Int.reduceNe, Nat.reduceSub, Nat.reduceAdd, Nat.reduceLT, Nat.reduceLeDiff, true_implies, false_implies, forall_const, not_true_eq_false, not_false_eq_true, decide_eq_false_iff_not, eq_self, Bool.not_eq_true, Bool.not_eq_false, Bool.not_eq_true', Bool.not_eq_false', decide_true, decide_false, if_true, if_false, Bool.false_eq_true, Bool.true_eq_false, Bool.not_true, Bool.not_false, Bool.and_true, Bool.true_and, Bool.false_and, Bool.and_false, Bool.or_true, Bool.true_or, Bool.false_or, Bool.or_false, true_and, and_true, false_and, and_false, ite_true, ite_false, reduceIte, Option.map_some, Option.map_none, decide_eq_true_eq, List.mem_cons, List.not_mem_nil, or_false, or_true, true_or, false_or, Nat.zero_lt_succ, Nat.lt_irrefl, atI_0, atI_s, atI_m1, Option.getD_some, Option.getD_none, Option.isSome_some, Option.isSome_none, String.reduceEq]
  refine ⟨fun hp => ?_, fun hp => ?_⟩
  · have e := Int.toNat_of_nonneg (mod_nn c h0)
    refine ⟨(c % n).toNat, _, by rw [e], rfl, by rw [e]; exact mod_lt c h0, _, _, rfl, Int.ediv_nonneg hc (by omega), hs, hs2⟩
  · have b1 := mod_nn (s * 39373 + 11) (n := 2147483647) (by decide)
    have b2 := mod_lt (s * 39373 + 11) (n := 2147483647) (by decide)
    generalize (s * 39373 + 11) % 2147483647 = z at b1 b2 ⊢
    generalize z * z % 2147483629 / 64 = y
    have e := Int.toNat_of_nonneg (mod_nn y h0)
    refine ⟨(y % n).toNat, _, by rw [e], rfl, by rw [e]; exact mod_lt y h0, _, _, rfl, hc, b1, b2⟩
theorem pool_ok {fu : Nat} {Phi : Nat → Ro → FR} : PoolS (runF fu Phi f_law_pool) := by
  intro ns j hj hn
  refine wp_fn rfl rfl ?_
  unfold b_law_pool
  simp -implicitDefEqProofs (disch := first | assumption | omega | (simp only [List.length_map, List.length_append, List.length_cons, List.length_nil, List.length_take, List.length_drop, List.length_reverse]; omega)) only [↓wp_var, ↓wp_shr, ↓wp_cst, ↓wp_glob, ↓wp_dnew, ↓wp_sl2, ↓wp_xnew, ↓wp_op, ↓wp_xop, ↓wp_meth, ↓wp_tup, ↓wp_lst, ↓wp_not, ↓wp_and, ↓wp_or, ↓wp_chain, ↓wp_lc, ↓wp_call, ↓wp_pop, ↓wp_evs_nil, ↓wp_evs_cons, ↓wp_rds_nil, ↓wp_rds_var, ↓wp_rds_cst, ↓wp_rds_glob, ↓wp_rds_op, ↓wp_rds_xop, ↓wp_rds_meth, ↓wp_rds_tup, ↓wp_rds_lst, ↓wp_rds_not, ↓wp_rds_and, ↓wp_rds_or, ↓wp_rds_chain, ↓wp_rds_lc, ↓wp_rds_call, ↓wp_rds_pop, ↓wp_rds_shr, ↓wp_rds_dnew, ↓wp_rds_sl2, ↓wp_rds_xnew, ↓wp_evA_nil, ↓wp_evA_ref, ↓wp_evA_own, ↓wp_evA_cst, ↓wp_evA_glob, ↓wp_evA_var, ↓wp_evA_op, ↓wp_evA_xop, ↓wp_evA_meth, ↓wp_evA_tup, ↓wp_evA_lst, ↓wp_evA_lc, ↓wp_evA_call, ↓wp_evA_not, ↓wp_evA_and, ↓wp_evA_or, ↓wp_evA_dnew, ↓wp_evA_sl2, ↓wp_evA_pop, ↓wp_evC_nil, ↓wp_evC_one, ↓wp_evI_rng1, ↓wp_evI_rng2, ↓wp_evI_prs, ↓wp_evI_var, ↓wp_evI_shr, ↓wp_evI_op, ↓wp_evI_xop, ↓wp_evI_lst, ↓wp_evI_tup, ↓wp_evI_call, ↓wp_evI_lc, ↓wp_evI_sl2, ↓wp_exs_nil, ↓wp_exs_cons, ↓kSeq_nx, ↓kSeq_ret, ↓wp_set, ↓wp_setLc, ↓wp_setT, ↓wp_move, ↓wp_aug, ↓wp_ite, ↓wp_for, ↓wp_while, ↓wp_retV, ↓wp_ret_cst, ↓wp_ret_op, ↓wp_ret_xop, ↓wp_ret_meth, ↓wp_ret_tup, ↓wp_ret_lst, ↓wp_ret_not, ↓wp_ret_and, ↓wp_ret_or, ↓wp_ret_chain, ↓wp_ret_lc, ↓wp_ret_call, ↓wp_ret_pop, ↓wp_ret_dnew, ↓wp_ret_sl2, ↓wp_expr, ↓wp_append, ↓wp_extend, ↓wp_setItem, ↓wp_pass, ↓wp_raise0, ↓wp_raise1, ↓wp_try, ↓wp_forStep, ↓wp_lcStep, wp_ok, wp_ex, wp_bad, wpo_some, wpo_none, wpp_some, wpp_none, kTr, kNot, kAnd, kOr, kPl, kDb, kTm, kDs, kDA, kTA, kCons, kEs, kOp, kTup, kLst, kSh, kBack, kBackE, kCall, kChain2, kChainB, kChain1, kChain0, kLc2, kLc, kSeqI, kPrs, kRng1, kRng2b, kRng2, kSl1, kSl2, kSl3, kXn, kPop, kSet, kAsg, kAug, kIte, kFor2, kFor, kRet, kDrop, kApp, kExt, kSetL, kSetD, kSetI, kRaise, eTry, kMove, kRetV, intAtR, isLs, kLe2, kLe, kFn, eFn, kMid_nx, kMid_ret, takeS, dropS, getV, has, toSh_sh, toSh_lst, toSh_dct, rdO, rdOs, lk1, lks, mv1, mvs, putBack, unlks, asgN, asg_name, asg_tupU, asgs_nil, asgs_cons, wipeR, backR, seqI_L, seqI_U, mTy, outL, prim, pAddI, pAddL, pAddT, rg1T, rg2T, smallT, ltT, toNat_nat, pSubI, pFdivI, pModI, pMulI, pPowI, pNeg, pEqI, pNeI, pLtI, pLeI, pGtI, pGeI, pLenLL, pLenU, pLenS, pLenD, pItemL, pItemU, pItemS, pMaxI, pMinI, pListL, pListU, pTupL, pTupU, pIntI, pIntB, pIsiN, pIsiB, pIsiI, pIsiS, pIsiL, pIsiU, pIsiD, tyD, pIs, pIsnot, isNon, pRevL, pRevU, pSlUlo, pSlUhi, pSlLlo, pSlLhi, pSlUlo1, pSlUhi1, pSlLlo1, pSlLhi1, cutP_L, cutP_U, pStrI, ixN_0, ixN_1, ixN_m1, pFld, fldD, pAll, pAny, boolsD, pGet, isImm, List.getElem?_cons_zero, List.getElem?_cons_succ, List.set_cons_zero, List.set_cons_succ, List.length_cons, List.length_nil, List.length_map, List.map_cons, List.map_nil, List.nil_append, List.cons_append, List.append_nil, List.headD_cons, List.tail_cons, List.replicate_succ, List.replicate_zero, Int.cast_ofNat_Int, Int.natCast_one, Int.natCast_zero, Int.reduceEq, Int.reduceLT, Int.reduceLE, Int.reduceNe, Nat.reduceSub, Nat.reduceAdd, Nat.reduceLT, Nat.reduceLeDiff, true_implies, false_implies, forall_const, not_true_eq_false, not_false_eq_true, decide_eq_false_iff_not, eq_self, Bool.not_eq_true, Bool.not_eq_false, Bool.not_eq_true', Bool.not_eq_false', decide_true, decide_false, if_true, if_false, Bool.false_eq_true, Bool.true_eq_false, Bool.not_true, Bool.not_false, Bool.and_true, Bool.true_and, Bool.false_and, Bool.and_false, Bool.or_true, Bool.true_or, Bool.false_or, Bool.or_false, true_and, and_true, false_and, and_false, ite_true, ite_false, reduceIte, Option.map_some, Option.map_none, decide_eq_true_eq, List.mem_cons, List.not_mem_nil, or_false, or_true, true_or, false_or, Nat.zero_lt_succ, Nat.lt_irrefl, atI_0, atI_s, atI_m1, Option.getD_some, Option.getD_none, Option.isSome_some, Option.isSome_none, String.reduceEq, List.length_map]
  have key : ∀ c : Int, (c < 10 ^ Int.toNat 18 → ∃ l, Slot.lst [PyData.int 0, PyData.int ((c % 1000000007 + 7368787 * (j : Int) * (j : Int) + 5) * 48271 % 2147483647)] = Slot.lst l ∧ PoolOk l) ∧
      (¬ c < 10 ^ Int.toNat 18 → ∃ l, Slot.lst [PyData.int c, PyData.int ((c % 1000000007 + 7368787 * (j : Int) * (j : Int) + 5) * 48271 % 2147483647)] = Slot.lst l ∧ PoolOk l) := by
    intro c
    have b1 := mod_nn ((c % 1000000007 + 7368787 * (j : Int) * (j : Int) + 5) * 48271) (n := 2147483647) (by decide)
    have b2 := mod_lt ((c % 1000000007 + 7368787 * (j : Int) * (j : Int) + 5) * 48271) (n := 2147483647) (by decide)
    generalize (c % 1000000007 + 7368787 * (j : Int) * (j : Int) + 5) * 48271 % 2147483647 = z at b1 b2 ⊢
    have e18 : (10 : Int) ^ Int.toNat 18 = 1000000000000000000 := by decide
    rw [e18]
    exact ⟨fun h => ⟨_, rfl, _, _, rfl, by omega, b1, b2⟩, fun h => ⟨_, rfl, _, _, rfl, by omega, b1, b2⟩⟩
  refine ⟨fun h => ?_, fun h => key _⟩
  have h' : j < ns.length := by omega
  simp -implicitDefEqProofs (disch := first | assumption | omega | (simp only [List.length_map, List.length_append, List.length_cons, List.length_nil, List.length_take, List.length_drop, List.length_reverse]; omega)) only [↓wp_var, ↓wp_shr, ↓wp_cst, ↓wp_glob, ↓wp_dnew, ↓wp_sl2, ↓wp_xnew, ↓wp_op, ↓wp_xop, ↓wp_meth, ↓wp_tup, ↓wp_lst, ↓wp_not, ↓wp_and, ↓wp_or, ↓wp_chain, ↓wp_lc, ↓wp_call, ↓wp_pop, ↓wp_evs_nil, ↓wp_evs_cons, ↓wp_rds_nil, ↓wp_rds_var, ↓wp_rds_cst, ↓wp_rds_glob, ↓wp_rds_op, ↓wp_rds_xop, ↓wp_rds_meth, ↓wp_rds_tup, ↓wp_rds_lst, ↓wp_rds_not, ↓wp_rds_and, ↓wp_rds_or, ↓wp_rds_chain, ↓wp_rds_lc, ↓wp_rds_call, ↓wp_rds_pop, ↓wp_rds_shr, ↓wp_rds_dnew, ↓wp_rds_sl2, ↓wp_rds_xnew, ↓wp_evA_nil, ↓wp_evA_ref, ↓wp_evA_own, ↓wp_evA_cst, ↓wp_evA_glob, ↓wp_evA_var, ↓wp_evA_op, ↓wp_evA_xop, ↓wp_evA_meth, ↓wp_evA_tup, ↓wp_evA_lst, ↓wp_evA_lc, ↓wp_evA_call, ↓wp_evA_not, ↓wp_evA_and, ↓wp_evA_or, ↓wp_evA_dnew, ↓wp_evA_sl2, ↓wp_evA_pop, ↓wp_evC_nil, ↓wp_evC_one, ↓wp_evI_rng1, ↓wp_evI_rng2, ↓wp_evI_prs, ↓wp_evI_var, ↓wp_evI_shr, ↓wp_evI_op, ↓wp_evI_xop, ↓wp_evI_lst, ↓wp_evI_tup, ↓wp_evI_call, ↓wp_evI_lc, ↓wp_evI_sl2, ↓wp_exs_nil, ↓wp_exs_cons, ↓kSeq_nx, ↓kSeq_ret, ↓wp_set, ↓wp_setLc, ↓wp_setT, ↓wp_move, ↓wp_aug, ↓wp_ite, ↓wp_for, ↓wp_while, ↓wp_retV, ↓wp_ret_cst, ↓wp_ret_op, ↓wp_ret_xop, ↓wp_ret_meth, ↓wp_ret_tup, ↓wp_ret_lst, ↓wp_ret_not, ↓wp_ret_and, ↓wp_ret_or, ↓wp_ret_chain, ↓wp_ret_lc, ↓wp_ret_call, ↓wp_ret_pop, ↓wp_ret_dnew, ↓wp_ret_sl2, ↓wp_expr, ↓wp_append, ↓wp_extend, ↓wp_setItem, ↓wp_pass, ↓wp_raise0, ↓wp_raise1, ↓wp_try, ↓wp_forStep, ↓wp_lcStep, wp_ok, wp_ex, wp_bad, wpo_some, wpo_none, wpp_some, wpp_none, kTr, kNot, kAnd, kOr, kPl, kDb, kTm, kDs, kDA, kTA, kCons, kEs, kOp, kTup, kLst, kSh, kBack, kBackE, kCall, kChain2, kChainB, kChain1, kChain0, kLc2, kLc, kSeqI, kPrs, kRng1, kRng2b, kRng2, kSl1, kSl2, kSl3, kXn, kPop, kSet, kAsg, kAug, kIte, kFor2, kFor, kRet, kDrop, kApp, kExt, kSetL, kSetD, kSetI, kRaise, eTry, kMove, kRetV, intAtR, isLs, kLe2, kLe, kFn, eFn, kMid_nx, kMid_ret, takeS, dropS, getV, has, toSh_sh, toSh_lst, toSh_dct, rdO, rdOs, lk1, lks, mv1, mvs, putBack, unlks, asgN, asg_name, asg_tupU, asgs_nil, asgs_cons, wipeR, backR, seqI_L, seqI_U, mTy, outL, prim, pAddI, pAddL, pAddT, rg1T, rg2T, smallT, ltT, toNat_nat, pSubI, pFdivI, pModI, pMulI, pPowI, pNeg, pEqI, pNeI, pLtI, pLeI, pGtI, pGeI, pLenLL, pLenU, pLenS, pLenD, pItemL, pItemU, pItemS, pMaxI, pMinI, pListL, pListU, pTupL, pTupU, pIntI, pIntB, pIsiN, pIsiB, pIsiI, pIsiS, pIsiL, pIsiU, pIsiD, tyD, pIs, pIsnot, isNon, pRevL, pRevU, pSlUlo, pSlUhi, pSlLlo, pSlLhi, pSlUlo1, pSlUhi1, pSlLlo1, pSlLhi1, cutP_L, cutP_U, pStrI, ixN_0, ixN_1, ixN_m1, pFld, fldD, pAll, pAny, boolsD, pGet, isImm, List.getElem?_cons_zero, List.getElem?_cons_succ, List.set_cons_zero, List.set_cons_succ, List.length_cons, List.length_nil, List.length_map, List.map_cons, List.map_nil, List.nil_append, List.cons_append, List.append_nil, List.headD_cons, List.tail_cons, List.replicate_succ, List.replicate_zero, Int.cast_ofNat_Int, Int.natCast_one, Int.natCast_zero, Int.reduceEq, Int.reduceLT, Int.reduceLE, Int.reduceNe, Nat.reduceSub, Nat.reduceAdd, Nat.reduceLT, Nat.reduceLeDiff, true_implies, false_implies, forall_const, not_true_eq_false, not_false_eq_true, decide_eq_false_iff_not, eq_self, Bool.not_eq_true, Bool.not_eq_false, Bool.not_eq_true', Bool.not_eq_false', decide_true, decide_false, if_true, if_false, Bool.false_eq_true, Bool.true_eq_false, Bool.not_true, Bool.not_false, Bool.and_true, Bool.true_and, Bool.false_and, Bool.and_false, Bool.or_true, Bool.true_or, Bool.false_or, Bool.or_false, true_and, and_true, false_and, and_false, ite_true, ite_false, reduceIte, Option.map_some, Option.map_none, decide_eq_true_eq, List.mem_cons, List.not_mem_nil, or_false, or_true, true_or, false_or, Nat.zero_lt_succ, Nat.lt_irrefl, atI_0, atI_s, atI_m1, Option.getD_some, Option.getD_none, Option.isSome_some, Option.isSome_none, String.reduceEq, scr_at h']
  exact key _
end Lib
end

section
set_option maxHeartbeats 8000000
set_option Elab.async false
set_option linter.all false
namespace K04
open PySem Ev

def b_law_made : CSs := ((.cons (.set (.name 2) (.lst (.cons (.xnew 1 "" (.var 0)) (.cons (.xnew 2 "" (.var 0)) (.cons (.xnew 3 "" (.var 0)) (.cons (.xnew 4 "" (.var 0)) (.cons (.xnew 5 "" (.var 0)) (.cons (.xnew 6 "" (.var 0)) (.cons (.xnew 7 "" (.var 0)) .nil)))))))))
    (.cons (.set (.name 2) (.op .add (.cons (.var 2) (.cons (.lst (.cons (.xnew 8 "" (.var 0)) (.cons (.xnew 9 "" (.var 0)) (.cons (.xnew 10 "" (.var 0)) (.cons (.xnew 11 "" (.var 0)) (.cons (.xnew 12 "" (.var 0)) (.cons (.xnew 13 "" (.var 0)) .nil))))))) .nil))))
    (.cons (.ret (.op .add (.cons (.var 2) (.cons (.lst (.cons (.xnew 14 "at" (.op .item (.cons (.var 1) (.cons (.cst (.int 0)) .nil)))) (.cons (.xnew 15 "at" (.op .item (.cons (.var 1) (.cons (.cst (.int 1)) .nil)))) (.cons (.xnew 16 "part" (.op .item (.cons (.var 1) (.cons (.cst (.int 2)) .nil)))) .nil)))) .nil))))
    .nil))))
def f_law_made : Fn := ⟨2, 3, [0, 1], b_law_made⟩
def b_law_kinds : CSs := ((.cons (.set (.name 1) (.lst (.cons (.xop (.isc [1]) (.cons (.var 0) .nil)) (.cons (.xop (.isc [2]) (.cons (.var 0) .nil)) (.cons (.xop (.isc [3]) (.cons (.var 0) .nil)) .nil)))))
    (.cons (.set (.name 1) (.op .add (.cons (.var 1) (.cons (.lst (.cons (.xop (.isc [4]) (.cons (.var 0) .nil)) (.cons (.xop (.isc [5]) (.cons (.var 0) .nil)) (.cons (.xop (.isc [6]) (.cons (.var 0) .nil)) .nil)))) .nil))))
    (.cons (.append 1 (.xop (.isc [7]) (.cons (.var 0) .nil)))
    (.cons (.set (.name 1) (.op .add (.cons (.var 1) (.cons (.lst (.cons (.xop (.isc [8]) (.cons (.var 0) .nil)) (.cons (.xop (.isc [9]) (.cons (.var 0) .nil)) (.cons (.xop (.isc [10]) (.cons (.var 0) .nil)) .nil)))) .nil))))
    (.cons (.set (.name 1) (.op .add (.cons (.var 1) (.cons (.lst (.cons (.xop (.isc [11]) (.cons (.var 0) .nil)) (.cons (.xop (.isc [12]) (.cons (.var 0) .nil)) (.cons (.xop (.isc [13]) (.cons (.var 0) .nil)) .nil)))) .nil))))
    (.cons (.ret (.op .add (.cons (.var 1) (.cons (.lst (.cons (.xop (.isc [14]) (.cons (.var 0) .nil)) (.cons (.xop (.isc [15]) (.cons (.var 0) .nil)) (.cons (.xop (.isc [16]) (.cons (.var 0) .nil)) .nil)))) .nil))))
    .nil)))))))
def f_law_kinds : Fn := ⟨1, 2, [0], b_law_kinds⟩
def b_law_right (c_law_kinds c_law_made c_law_take : Nat) : CSs := ((.cons (.set (.name 1) (.op (.sl false true) (.cons (.cst (.str (Str.ofString "abcdefghij"))) (.cons (.call c_law_take (.cons (.ref 0) (.cons (.cst (.int 11)) .nil))) .nil))))
    (.cons (.setLc 2 (.lc (.op .item (.cons (.lst (.cons (.cst .none) (.cons (.call c_law_take (.cons (.ref 0) (.cons (.var 7) .nil))) .nil))) (.cons (.call c_law_take (.cons (.ref 0) (.cons (.cst (.int 2)) .nil))) .nil))) (.name 7) (.seq (.lst (.cons (.cst (.int 200)) (.cons (.cst (.int 12)) (.cons (.cst (.int 4)) .nil))))) .nil [(Str.ofString "_law_most", 7)]))
    (.cons (.setLc 3 (.lc (.op .item (.cons (.lst (.cons (.cst (.int 0)) (.cons (.cst .none) .nil))) (.cons (.op .int_ (.cons (.op .eq (.cons (.var 8) (.cons (.cst (.int 0)) .nil))) .nil)) .nil))) (.name 8) (.seq (.shr 2)) .nil [(Str.ofString "_law_number", 8)]))
    (.cons (.set (.name 4) (.call c_law_made (.cons (.var 1) (.cons (.var 2) .nil))))
    (.cons (.set (.name 5) (.call c_law_made (.cons (.cst (.str (Str.ofString "other"))) (.cons (.var 3) .nil))))
    (.cons (.for_ (.name 6) (.rng1 (.cst (.int 16))) (.cons (.ite (.op .ne (.cons (.call c_law_kinds (.cons (.op .item (.cons (.var 4) (.cons (.var 6) .nil))) .nil)) (.cons (.lc (.op .eq (.cons (.var 9) (.cons (.var 6) .nil))) (.name 9) (.rng1 (.cst (.int 16))) .nil [(Str.ofString "_law_other", 9)]) .nil))) (.cons (.ret (.cst (.bool false)))
    .nil) .nil)
    (.cons (.ite (.or (.not (.xop (.isc [0, 1, 2, 3, 4, 5, 6, 7, 8, 9, 10, 11, 12, 13, 14, 15, 16]) (.cons (.op .item (.cons (.var 4) (.cons (.var 6) .nil))) .nil))) (.not (.xop (.isc [0, 1, 2, 3, 4, 5, 6, 7, 8, 9, 10, 11, 12, 13, 14, 15, 16]) (.cons (.op .item (.cons (.var 4) (.cons (.var 6) .nil))) .nil)))) (.cons (.ret (.cst (.bool false)))
    .nil) .nil)
    .nil)))
    (.cons (.ite (.op .ne (.cons (.lst (.cons (.xop (.fld "at") (.cons (.op .item (.cons (.var 4) (.cons (.cst (.int 13)) .nil))) .nil)) (.cons (.xop (.fld "at") (.cons (.op .item (.cons (.var 4) (.cons (.cst (.int 14)) .nil))) .nil)) (.cons (.xop (.fld "part") (.cons (.op .item (.cons (.var 4) (.cons (.cst (.int 15)) .nil))) .nil)) .nil)))) (.cons (.var 2) .nil))) (.cons (.ret (.cst (.bool false)))
    .nil) .nil)
    (.cons (.ret (.and (.op .eq (.cons (.lst (.cons (.xop (.fld "at") (.cons (.op .item (.cons (.var 5) (.cons (.cst (.int 13)) .nil))) .nil)) (.cons (.xop (.fld "at") (.cons (.op .item (.cons (.var 5) (.cons (.cst (.int 14)) .nil))) .nil)) (.cons (.xop (.fld "part") (.cons (.op .item (.cons (.var 5) (.cons (.cst (.int 15)) .nil))) .nil)) .nil)))) (.cons (.var 3) .nil))) (.xop (.isc [0, 1, 2, 3, 4, 5, 6, 7, 8, 9, 10, 11, 12, 13, 14, 15, 16]) (.cons (.xnew 0 "" (.var 1)) .nil))))
    .nil)))))))))
def f_law_right (c_law_kinds c_law_made c_law_take : Nat) : Fn := ⟨1, 10, [0], b_law_right c_law_kinds c_law_made c_law_take⟩
def b_law (c_law_pool c_law_right : Nat) : CSs := ((.cons (.for_ (.name 1) (.rng1 (.op .max2 (.cons (.cst (.int 1)) (.cons (.op .min2 (.cons (.op .len (.cons (.var 0) .nil)) (.cons (.cst (.int 20)) .nil))) .nil)))) (.cons (.ite (.not (.call c_law_right (.cons (.own (.call c_law_pool (.cons (.ref 0) (.cons (.var 1) .nil)))) .nil))) (.cons (.ret (.cst (.bool false)))
    .nil) .nil)
    .nil))
    (.cons (.ret (.cst (.bool true)))
    .nil)))
def f_law (c_law_pool c_law_right : Nat) : Fn := ⟨1, 2, [0], b_law c_law_pool c_law_right⟩
def T : List Fn := [Lib.f_law_pool, Lib.f_law_take, f_law_made, f_law_kinds, (f_law_right 3 2 1), (f_law 0 4)]
theorem T_0 : T[0]? = some Lib.f_law_pool := rfl
theorem T_1 : T[1]? = some Lib.f_law_take := rfl
theorem T_2 : T[2]? = some f_law_made := rfl
theorem T_3 : T[3]? = some f_law_kinds := rfl
theorem T_4 : T[4]? = some (f_law_right 3 2 1) := rfl
theorem T_5 : T[5]? = some (f_law 0 4) := rfl
/-- the turns that a while may take -/
abbrev FU : Nat := 1000000000000
end K04
end

section
set_option Elab.async false
set_option linter.all false
set_option maxRecDepth 100000
set_option maxHeartbeats 2000000
namespace K04
open PySem Ev Mc Lib
def mk (a b c : PyData) : List PyData := [excD 1 [], excD 2 [], excD 3 [], excD 4 [], excD 5 [], excD 6 [], excD 7 [], excD 8 [], excD 9 [], excD 10 [], excD 11 [], excD 12 [], excD 13 [],
  excD 14 [(.str (Str.ofString "at"), a)], excD 15 [(.str (Str.ofString "at"), b)], excD 16 [(.str (Str.ofString "part"), c)]]
def MadeS (P : Ro → FR) : Prop := ∀ (t : Str) (a b c : PyData), WpF (P [.sh (.str t), .sh (.list [a, b, c])]) (fun v o => v = .lst (mk a b c) ∧ o = [.sh (.str t), .sh (.list [a, b, c])]) noE
theorem atI_2 {α : Type} {a b c : α} {l : List α} : L2.atI (a :: b :: c :: l) 2 = some c := by
  have h2 : (2 : Int) < ((a :: b :: c :: l).length : Int) := by simp only [List.length_cons]; omega
  unfold L2.atI L2.ixN
  rw [if_pos (by decide), if_pos h2]
  rfl
theorem made_ok {fu : Nat} {Phi : Nat → Ro → FR} : MadeS (runF fu Phi f_law_made) := by
  intro t a b c
  refine wp_fn rfl rfl ?_
  unfold b_law_made
  simp -implicitDefEqProofs (disch := first | assumption | omega | (simp only [List.length_map, List.length_append, List.length_cons, List.length_nil, List.length_take, List.length_drop, List.length_reverse]; omega)) only [↓wp_var, ↓wp_shr, ↓wp_cst, ↓wp_glob, ↓wp_dnew, ↓wp_sl2, ↓wp_xnew, ↓wp_op, ↓wp_xop, ↓wp_meth, ↓wp_tup, ↓wp_lst, ↓wp_not, ↓wp_and, ↓wp_or, ↓wp_chain, ↓wp_lc, ↓wp_call, ↓wp_pop, ↓wp_evs_nil, ↓wp_evs_cons, ↓wp_rds_nil, ↓wp_rds_var, ↓wp_rds_cst, ↓wp_rds_glob, ↓wp_rds_op, ↓wp_rds_xop, ↓wp_rds_meth, ↓wp_rds_tup, ↓wp_rds_lst, ↓wp_rds_not, ↓wp_rds_and, ↓wp_rds_or, ↓wp_rds_chain, ↓wp_rds_lc, ↓wp_rds_call, ↓wp_rds_pop, ↓wp_rds_shr, ↓wp_rds_dnew, ↓wp_rds_sl2, ↓wp_rds_xnew, ↓wp_evA_nil, ↓wp_evA_ref, ↓wp_evA_own, ↓wp_evA_cst, ↓wp_evA_glob, ↓wp_evA_var, ↓wp_evA_op, ↓wp_evA_xop, ↓wp_evA_meth, ↓wp_evA_tup, ↓wp_evA_lst, ↓wp_evA_lc, ↓wp_evA_call, ↓wp_evA_not, ↓wp_evA_and, ↓wp_evA_or, ↓wp_evA_dnew, ↓wp_evA_sl2, ↓wp_evA_pop, ↓wp_evC_nil, ↓wp_evC_one, ↓wp_evI_rng1, ↓wp_evI_rng2, ↓wp_evI_prs, ↓wp_evI_var, ↓wp_evI_shr, ↓wp_evI_op, ↓wp_evI_xop, ↓wp_evI_lst, ↓wp_evI_tup, ↓wp_evI_call, ↓wp_evI_lc, ↓wp_evI_sl2, ↓wp_exs_nil, ↓wp_exs_cons, ↓kSeq_nx, ↓kSeq_ret, ↓wp_set, ↓wp_setLc, ↓wp_setT, ↓wp_move, ↓wp_aug, ↓wp_ite, ↓wp_for, ↓wp_while, ↓wp_retV, ↓wp_ret_cst, ↓wp_ret_op, ↓wp_ret_xop, ↓wp_ret_meth, ↓wp_ret_tup, ↓wp_ret_lst, ↓wp_ret_not, ↓wp_ret_and, ↓wp_ret_or, ↓wp_ret_chain, ↓wp_ret_lc, ↓wp_ret_call, ↓wp_ret_pop, ↓wp_ret_dnew, ↓wp_ret_sl2, ↓wp_expr, ↓wp_append, ↓wp_extend, ↓wp_setItem, ↓wp_pass, ↓wp_raise0, ↓wp_raise1, ↓wp_try, ↓wp_forStep, ↓wp_lcStep, wp_ok, wp_ex, wp_bad, wpo_some, wpo_none, wpp_some, wpp_none, kTr, kNot, kAnd, kOr, kPl, kDb, kTm, kDs, kDA, kTA, kCons, kEs, kOp, kTup, kLst, kSh, kBack, kBackE, kCall, kChain2, kChainB, kChain1, kChain0, kLc2, kLc, kSeqI, kPrs, kRng1, kRng2b, kRng2, kSl1, kSl2, kSl3, kXn, kPop, kSet, kAsg, kAug, kIte, kFor2, kFor, kRet, kDrop, kApp, kExt, kSetL, kSetD, kSetI, kRaise, eTry, kMove, kRetV, intAtR, isLs, kLe2, kLe, kFn, eFn, kMid_nx, kMid_ret, takeS, dropS, getV, has, toSh_sh, toSh_lst, toSh_dct, rdO, rdOs, lk1, lks, mv1, mvs, putBack, unlks, asgN, asg_name, asg_tupU, asgs_nil, asgs_cons, wipeR, backR, seqI_L, seqI_U, mTy, outL, prim, pAddI, pAddL, pAddT, rg1T, rg2T, smallT, ltT, toNat_nat, pSubI, pFdivI, pModI, pMulI, pPowI, pNeg, pEqI, pNeI, pLtI, pLeI, pGtI, pGeI, pLenLL, pLenU, pLenS, pLenD, pItemL, pItemU, pItemS, pMaxI, pMinI, pListL, pListU, pTupL, pTupU, pIntI, pIntB, pIsiN, pIsiB, pIsiI, pIsiS, pIsiL, pIsiU, pIsiD, tyD, pIs, pIsnot, isNon, pRevL, pRevU, pSlUlo, pSlUhi, pSlLlo, pSlLhi, pSlUlo1, pSlUhi1, pSlLlo1, pSlLhi1, cutP_L, cutP_U, pStrI, ixN_0, ixN_1, ixN_m1, pFld, fldD, pAll, pAny, boolsD, pGet, isImm, List.getElem?_cons_zero, List.getElem?_cons_succ, List.set_cons_zero, List.set_cons_succ, List.length_cons, List.length_nil, List.length_map, List.map_cons, List.map_nil, List.nil_append, List.cons_append, List.append_nil, List.headD_cons, List.tail_cons, List.replicate_succ, List.replicate_zero, Int.cast_ofNat_Int, Int.natCast_one, Int.natCast_zero, Int.reduceEq, Int.reduceLT, Int.reduceLE, Int.reduceNe, Nat.reduceSub, Nat.reduceAdd, Nat.reduceLT, Nat.reduceLeDiff, true_implies, false_implies, forall_const, not_true_eq_false, not_false_eq_true, decide_eq_false_iff_not, eq_self, Bool.not_eq_true, Bool.not_eq_false, Bool.not_eq_true', Bool.not_eq_false', decide_true, decide_false, if_true, if_false, Bool.false_eq_true, Bool.true_eq_false, Bool.not_true, Bool.not_false, Bool.and_true, Bool.true_and, Bool.false_and, Bool.and_false, Bool.or_true, Bool.true_or, Bool.false_or, Bool.or_false, true_and, and_true, false_and, and_false, ite_true, ite_false, reduceIte, Option.map_some, Option.map_none, decide_eq_true_eq, List.mem_cons, List.not_mem_nil, or_false, or_true, true_or, false_or, Nat.zero_lt_succ, Nat.lt_irrefl, atI_0, atI_s, atI_m1, Option.getD_some, Option.getD_none, Option.isSome_some, Option.isSome_none, String.reduceEq, atI_2]
  rfl
theorem isc1 (j c : Nat) (fs : List (PyData × PyData)) : pIsc [j] [excD c fs] = some (.sh (.bool (decide (j = c)))) := by
  show some (Slot.sh (.bool ([j].any fun k => decide ((k : Int) = (c : Int))))) = _
  have : ([j].any fun k => decide ((k : Int) = (c : Int))) = decide (j = c) := by
    rw [List.any_cons, List.any_nil, Bool.or_false]
    by_cases h : j = c
    · subst h; simp
    · have : ¬ (j : Int) = (c : Int) := by omega
      simp [h, this]
  rw [this]
theorem iscAll (c : Nat) (h : c ≤ 16) (fs : List (PyData × PyData)) : pIsc [0, 1, 2, 3, 4, 5, 6, 7, 8, 9, 10, 11, 12, 13, 14, 15, 16] [excD c fs] = some (.sh (.bool true)) := by
  show some (Slot.sh (.bool (([0, 1, 2, 3, 4, 5, 6, 7, 8, 9, 10, 11, 12, 13, 14, 15, 16] : List Nat).any fun k => decide ((k : Int) = (c : Int))))) = _
  have : (([0, 1, 2, 3, 4, 5, 6, 7, 8, 9, 10, 11, 12, 13, 14, 15, 16] : List Nat).any fun k => decide ((k : Int) = (c : Int))) = true := by
    rw [List.any_eq_true]
    refine ⟨c, ?_, by simp⟩
    simp only [List.mem_cons, List.not_mem_nil, or_false]
    omega
  rw [this]
def kindL (c : Nat) : List Bool := (List.range 16).map fun j => decide (j + 1 = c)
def KindS (P : Ro → FR) : Prop := ∀ (c : Nat) (fs : List (PyData × PyData)), WpF (P [.sh (excD c fs)]) (fun v o => v = .lst ((kindL c).map PyData.bool) ∧ o = [.sh (excD c fs)]) noE
theorem kinds_ok {fu : Nat} {Phi : Nat → Ro → FR} : KindS (runF fu Phi f_law_kinds) := by
  intro c fs
  refine wp_fn rfl rfl ?_
  unfold b_law_kinds
  simp -implicitDefEqProofs (disch := first | assumption | omega | (simp only [List.length_map, List.length_append, List.length_cons, List.length_nil, List.length_take, List.length_drop, List.length_reverse]; omega)) only [↓wp_var, ↓wp_shr, ↓wp_cst, ↓wp_glob, ↓wp_dnew, ↓wp_sl2, ↓wp_xnew, ↓wp_op, ↓wp_xop, ↓wp_meth, ↓wp_tup, ↓wp_lst, ↓wp_not, ↓wp_and, ↓wp_or, ↓wp_chain, ↓wp_lc, ↓wp_call, ↓wp_pop, ↓wp_evs_nil, ↓wp_evs_cons, ↓wp_rds_nil, ↓wp_rds_var, ↓wp_rds_cst, ↓wp_rds_glob, ↓wp_rds_op, ↓wp_rds_xop, ↓wp_rds_meth, ↓wp_rds_tup, ↓wp_rds_lst, ↓wp_rds_not, ↓wp_rds_and, ↓wp_rds_or, ↓wp_rds_chain, ↓wp_rds_lc, ↓wp_rds_call, ↓wp_rds_pop, ↓wp_rds_shr, ↓wp_rds_dnew, ↓wp_rds_sl2, ↓wp_rds_xnew, ↓wp_evA_nil, ↓wp_evA_ref, ↓wp_evA_own, ↓wp_evA_cst, ↓wp_evA_glob, ↓wp_evA_var, ↓wp_evA_op, ↓wp_evA_xop, ↓wp_evA_meth, ↓wp_evA_tup, ↓wp_evA_lst, ↓wp_evA_lc, ↓wp_evA_call, ↓wp_evA_not, ↓wp_evA_and, ↓wp_evA_or, ↓wp_evA_dnew, ↓wp_evA_sl2, ↓wp_evA_pop, ↓wp_evC_nil, ↓wp_evC_one, ↓wp_evI_rng1, ↓wp_evI_rng2, ↓wp_evI_prs, ↓wp_evI_var, ↓wp_evI_shr, ↓wp_evI_op, ↓wp_evI_xop, ↓wp_evI_lst, ↓wp_evI_tup, ↓wp_evI_call, ↓wp_evI_lc, ↓wp_evI_sl2, ↓wp_exs_nil, ↓wp_exs_cons, ↓kSeq_nx, ↓kSeq_ret, ↓wp_set, ↓wp_setLc, ↓wp_setT, ↓wp_move, ↓wp_aug, ↓wp_ite, ↓wp_for, ↓wp_while, ↓wp_retV, ↓wp_ret_cst, ↓wp_ret_op, ↓wp_ret_xop, ↓wp_ret_meth, ↓wp_ret_tup, ↓wp_ret_lst, ↓wp_ret_not, ↓wp_ret_and, ↓wp_ret_or, ↓wp_ret_chain, ↓wp_ret_lc, ↓wp_ret_call, ↓wp_ret_pop, ↓wp_ret_dnew, ↓wp_ret_sl2, ↓wp_expr, ↓wp_append, ↓wp_extend, ↓wp_setItem, ↓wp_pass, ↓wp_raise0, ↓wp_raise1, ↓wp_try, ↓wp_forStep, ↓wp_lcStep, wp_ok, wp_ex, wp_bad, wpo_some, wpo_none, wpp_some, wpp_none, kTr, kNot, kAnd, kOr, kPl, kDb, kTm, kDs, kDA, kTA, kCons, kEs, kOp, kTup, kLst, kSh, kBack, kBackE, kCall, kChain2, kChainB, kChain1, kChain0, kLc2, kLc, kSeqI, kPrs, kRng1, kRng2b, kRng2, kSl1, kSl2, kSl3, kXn, kPop, kSet, kAsg, kAug, kIte, kFor2, kFor, kRet, kDrop, kApp, kExt, kSetL, kSetD, kSetI, kRaise, eTry, kMove, kRetV, intAtR, isLs, kLe2, kLe, kFn, eFn, kMid_nx, kMid_ret, takeS, dropS, getV, has, toSh_sh, toSh_lst, toSh_dct, rdO, rdOs, lk1, lks, mv1, mvs, putBack, unlks, asgN, asg_name, asg_tupU, asgs_nil, asgs_cons, wipeR, backR, seqI_L, seqI_U, mTy, outL, prim, pAddI, pAddL, pAddT, rg1T, rg2T, smallT, ltT, toNat_nat, pSubI, pFdivI, pModI, pMulI, pPowI, pNeg, pEqI, pNeI, pLtI, pLeI, pGtI, pGeI, pLenLL, pLenU, pLenS, pLenD, pItemL, pItemU, pItemS, pMaxI, pMinI, pListL, pListU, pTupL, pTupU, pIntI, pIntB, pIsiN, pIsiB, pIsiI, pIsiS, pIsiL, pIsiU, pIsiD, tyD, pIs, pIsnot, isNon, pRevL, pRevU, pSlUlo, pSlUhi, pSlLlo, pSlLhi, pSlUlo1, pSlUhi1, pSlLlo1, pSlLhi1, cutP_L, cutP_U, pStrI, ixN_0, ixN_1, ixN_m1, pFld, fldD, pAll, pAny, boolsD, pGet, isImm, List.getElem?_cons_zero, List.getElem?_cons_succ, List.set_cons_zero, List.set_cons_succ, List.length_cons, List.length_nil, List.length_map, List.map_cons, List.map_nil, List.nil_append, List.cons_append, List.append_nil, List.headD_cons, List.tail_cons, List.replicate_succ, List.replicate_zero, Int.cast_ofNat_Int, Int.natCast_one, Int.natCast_zero, Int.reduceEq, Int.reduceLT, Int.reduceLE, Int.reduceNe, Nat.reduceSub, Nat.reduceAdd, Nat.reduceLT, Nat.reduceLeDiff, true_implies, false_implies, forall_const, not_true_eq_false, not_false_eq_true, decide_eq_false_iff_not, eq_self, Bool.not_eq_true, Bool.not_eq_false, Bool.not_eq_true', Bool.not_eq_false', decide_true, decide_false, if_true, if_false, Bool.false_eq_true, Bool.true_eq_false, Bool.not_true, Bool.not_false, Bool.and_true, Bool.true_and, Bool.false_and, Bool.and_false, Bool.or_true, Bool.true_or, Bool.false_or, Bool.or_false, true_and, and_true, false_and, and_false, ite_true, ite_false, reduceIte, Option.map_some, Option.map_none, decide_eq_true_eq, List.mem_cons, List.not_mem_nil, or_false, or_true, true_or, false_or, Nat.zero_lt_succ, Nat.lt_irrefl, atI_0, atI_s, atI_m1, Option.getD_some, Option.getD_none, Option.isSome_some, Option.isSome_none, String.reduceEq, isc1]
  rfl
theorem mk_at (a b c : PyData) {k : Nat} (h : k < 16) : ∃ fs, L2.atI (mk a b c) (k : Int) = some (excD (k + 1) fs) := by
  have : k = 0 ∨ k = 1 ∨ k = 2 ∨ k = 3 ∨ k = 4 ∨ k = 5 ∨ k = 6 ∨ k = 7 ∨ k = 8 ∨ k = 9 ∨ k = 10 ∨ k = 11 ∨ k = 12 ∨ k = 13 ∨ k = 14 ∨ k = 15 := by omega
  rcases this with rfl | rfl | rfl | rfl | rfl | rfl | rfl | rfl | rfl | rfl | rfl | rfl | rfl | rfl | rfl | rfl <;> exact ⟨_, rfl⟩
theorem eqv_bool (a b : Bool) : PyData.eqv (.bool a) (.bool b) = decide (a = b) := by cases a <;> cases b <;> simp [PyData.eqv]
theorem lay_bool (b : Bool) : (PyData.bool b).canLay0 = true := by simp [PyData.canLay0]
theorem depth_bool (b : Bool) : (PyData.bool b).depth ≤ 0 := by simp [PyData.depth]
theorem pNeB (l m : List Bool) : pNe [.list (l.map PyData.bool), .list (m.map PyData.bool)] = some (.sh (.bool (!decide (l = m)))) := by
  rw [pNe_of (shp_list lay_bool depth_bool (by decide) l) (shp_list lay_bool depth_bool (by decide) m), eqv_list eqv_bool]
/-- None or a number -/
def NN (d : PyData) : Prop := d = .none ∨ ∃ n : Nat, d = .int n
theorem NN.shp {d : PyData} (h : NN d) : d.canLay0 = true ∧ d.depth ≤ 0 ∧ PyData.eqv d d = true := by
  rcases h with rfl | ⟨n, rfl⟩
  · exact ⟨rfl, by simp [PyData.depth], rfl⟩
  · exact ⟨lay_int _, depth_int _, by rw [eqv_int]; simp⟩
theorem three_same {a b c : PyData} (ha : NN a) (hb : NN b) (hc : NN c) : pEq [.list [a, b, c], .list [a, b, c]] = some (.sh (.bool true)) ∧ pNe [.list [a, b, c], .list [a, b, c]] = some (.sh (.bool false)) := by
  have hs : Ev.shp (.list [a, b, c]) = true := shp_of (k := 1) (by simp [PyData.canLay0, PyData.canLayAll0, ha.shp.1, hb.shp.1, hc.shp.1]) (by have := ha.shp.2.1; have := hb.shp.2.1; have := hc.shp.2.1; simp only [PyData.depth, PyData.depthAll]; omega) (by decide)
  have he : PyData.eqv (.list [a, b, c]) (.list [a, b, c]) = true := by simp [PyData.eqv, PyData.eqvAll, ha.shp.2.2, hb.shp.2.2, hc.shp.2.2]
  exact ⟨by rw [pEq_of hs hs, he], by rw [pNe_of hs hs, he]; rfl⟩
def RightS (P : Ro → FR) : Prop := ∀ l, PoolOk l → WpF (P [.lst l]) (fun v o => v = .sh (.bool true) ∧ ∃ x, o = [x]) noE
theorem two_at {x : Nat} (h : x < 2) (n : Nat) : ∃ d, L2.atI [PyData.none, .int n] (x : Int) = some d ∧ NN d := by
  have : x = 0 ∨ x = 1 := by omega
  rcases this with rfl | rfl
  · exact ⟨_, atI_0, .inl rfl⟩
  · exact ⟨_, atI_s, .inr ⟨n, rfl⟩⟩
theorem other_at {d : PyData} (h : NN d) : ∃ (b : Bool) (e : PyData), pEq [d, .int 0] = some (.sh (.bool b)) ∧ L2.atI [PyData.int 0, .none] (if b then 1 else 0) = some e ∧ NN e := by
  rcases h with rfl | ⟨n, rfl⟩
  · exact ⟨false, _, by rw [pEq_of rfl rfl]; rfl, atI_0, .inr ⟨0, rfl⟩⟩
  · by_cases hn : (n : Int) = 0
    · exact ⟨true, _, by rw [pEqI]; simp [hn], atI_s, .inl rfl⟩
    · exact ⟨false, _, by rw [pEqI, decide_eq_false hn], atI_0, .inr ⟨0, rfl⟩⟩
theorem right_ok {fu ki ma ta : Nat} {Phi : Nat → Ro → FR} (hK : KindS (Phi ki)) (hM : MadeS (Phi ma)) (hT : TakeS (Phi ta)) : RightS (runF fu Phi (f_law_right ki ma ta)) := by
  intro l hl
  refine wp_fn rfl rfl ?_
  unfold b_law_right
  simp -implicitDefEqProofs (disch := first | assumption | omega | (simp only [List.length_map, List.length_append, List.length_cons, List.length_nil, List.length_take, List.length_drop, List.length_reverse]; omega)) only [↓wp_var, ↓wp_shr, ↓wp_cst, ↓wp_glob, ↓wp_dnew, ↓wp_sl2, ↓wp_xnew, ↓wp_op, ↓wp_xop, ↓wp_meth, ↓wp_tup, ↓wp_lst, ↓wp_not, ↓wp_and, ↓wp_or, ↓wp_chain, ↓wp_lc, ↓wp_call, ↓wp_pop, ↓wp_evs_nil, ↓wp_evs_cons, ↓wp_rds_nil, ↓wp_rds_var, ↓wp_rds_cst, ↓wp_rds_glob, ↓wp_rds_op, ↓wp_rds_xop, ↓wp_rds_meth, ↓wp_rds_tup, ↓wp_rds_lst, ↓wp_rds_not, ↓wp_rds_and, ↓wp_rds_or, ↓wp_rds_chain, ↓wp_rds_lc, ↓wp_rds_call, ↓wp_rds_pop, ↓wp_rds_shr, ↓wp_rds_dnew, ↓wp_rds_sl2, ↓wp_rds_xnew, ↓wp_evA_nil, ↓wp_evA_ref, ↓wp_evA_own, ↓wp_evA_cst, ↓wp_evA_glob, ↓wp_evA_var, ↓wp_evA_op, ↓wp_evA_xop, ↓wp_evA_meth, ↓wp_evA_tup, ↓wp_evA_lst, ↓wp_evA_lc, ↓wp_evA_call, ↓wp_evA_not, ↓wp_evA_and, ↓wp_evA_or, ↓wp_evA_dnew, ↓wp_evA_sl2, ↓wp_evA_pop, ↓wp_evC_nil, ↓wp_evC_one, ↓wp_evI_rng1, ↓wp_evI_rng2, ↓wp_evI_prs, ↓wp_evI_var, ↓wp_evI_shr, ↓wp_evI_op, ↓wp_evI_xop, ↓wp_evI_lst, ↓wp_evI_tup, ↓wp_evI_call, ↓wp_evI_lc, ↓wp_evI_sl2, ↓wp_exs_nil, ↓wp_exs_cons, ↓kSeq_nx, ↓kSeq_ret, ↓wp_set, ↓wp_setLc, ↓wp_setT, ↓wp_move, ↓wp_aug, ↓wp_ite, ↓wp_for, ↓wp_while, ↓wp_retV, ↓wp_ret_cst, ↓wp_ret_op, ↓wp_ret_xop, ↓wp_ret_meth, ↓wp_ret_tup, ↓wp_ret_lst, ↓wp_ret_not, ↓wp_ret_and, ↓wp_ret_or, ↓wp_ret_chain, ↓wp_ret_lc, ↓wp_ret_call, ↓wp_ret_pop, ↓wp_ret_dnew, ↓wp_ret_sl2, ↓wp_expr, ↓wp_append, ↓wp_extend, ↓wp_setItem, ↓wp_pass, ↓wp_raise0, ↓wp_raise1, ↓wp_try, ↓wp_forStep, ↓wp_lcStep, wp_ok, wp_ex, wp_bad, wpo_some, wpo_none, wpp_some, wpp_none, kTr, kNot, kAnd, kOr, kPl, kDb, kTm, kDs, kDA, kTA, kCons, kEs, kOp, kTup, kLst, kSh, kBack, kBackE, kCall, kChain2, kChainB, kChain1, kChain0, kLc2, kLc, kSeqI, kPrs, kRng1, kRng2b, kRng2, kSl1, kSl2, kSl3, kXn, kPop, kSet, kAsg, kAug, kIte, kFor2, kFor, kRet, kDrop, kApp, kExt, kSetL, kSetD, kSetI, kRaise, eTry, kMove, kRetV, intAtR, isLs, kLe2, kLe, kFn, eFn, kMid_nx, kMid_ret, takeS, dropS, getV, has, toSh_sh, toSh_lst, toSh_dct, rdO, rdOs, lk1, lks, mv1, mvs, putBack, unlks, asgN, asg_name, asg_tupU, asgs_nil, asgs_cons, wipeR, backR, seqI_L, seqI_U, mTy, outL, prim, pAddI, pAddL, pAddT, rg1T, rg2T, smallT, ltT, toNat_nat, pSubI, pFdivI, pModI, pMulI, pPowI, pNeg, pEqI, pNeI, pLtI, pLeI, pGtI, pGeI, pLenLL, pLenU, pLenS, pLenD, pItemL, pItemU, pItemS, pMaxI, pMinI, pListL, pListU, pTupL, pTupU, pIntI, pIntB, pIsiN, pIsiB, pIsiI, pIsiS, pIsiL, pIsiU, pIsiD, tyD, pIs, pIsnot, isNon, pRevL, pRevU, pSlUlo, pSlUhi, pSlLlo, pSlLhi, pSlUlo1, pSlUhi1, pSlLlo1, pSlLhi1, cutP_L, cutP_U, pStrI, ixN_0, ixN_1, ixN_m1, pFld, fldD, pAll, pAny, boolsD, pGet, isImm, List.getElem?_cons_zero, List.getElem?_cons_succ, List.set_cons_zero, List.set_cons_succ, List.length_cons, List.length_nil, List.length_map, List.map_cons, List.map_nil, List.nil_append, List.cons_append, List.append_nil, List.headD_cons, List.tail_cons, List.replicate_succ, List.replicate_zero, Int.cast_ofNat_Int, Int.natCast_one, Int.natCast_zero, Int.reduceEq, Int.reduceLT, Int.reduceLE, Int.reduceNe, Nat.reduceSub, Nat.reduceAdd, Nat.reduceLT, Nat.reduceLeDiff, true_implies, false_implies, forall_const, not_true_eq_false, not_false_eq_true, decide_eq_false_iff_not, eq_self, Bool.not_eq_true, Bool.not_eq_false, Bool.not_eq_true', Bool.not_eq_false', decide_true, decide_false, if_true, if_false, Bool.false_eq_true, Bool.true_eq_false, Bool.not_true, Bool.not_false, Bool.and_true, Bool.true_and, Bool.false_and, Bool.and_false, Bool.or_true, Bool.true_or, Bool.false_or, Bool.or_false, true_and, and_true, false_and, and_false, ite_true, ite_false, reduceIte, Option.map_some, Option.map_none, decide_eq_true_eq, List.mem_cons, List.not_mem_nil, or_false, or_true, true_or, false_or, Nat.zero_lt_succ, Nat.lt_irrefl, atI_0, atI_s, atI_m1, Option.getD_some, Option.getD_none, Option.isSome_some, Option.isSome_none, String.reduceEq]
  refine (hT l 11 hl (by decide) (by decide)).to ?_
  rintro _ _ ⟨x1, l1, rfl, rfl, hx1, hl1⟩
  have es : pSl false true [.str (Str.ofString "abcdefghij"), .int (x1 : Int)] = some (.sh (.str (L2.cutS (Str.ofString "abcdefghij") none (some (x1 : Int))))) := by
    have hb : small (Str.ofString "abcdefghij").length = true := by decide +kernel
    show cutP (.str (Str.ofString "abcdefghij")) none (some (x1 : Int)) = _
    unfold cutP
    simp only [hb, if_true]
  generalize L2.cutS (Str.ofString "abcdefghij") none (some (x1 : Int)) = t at es
  simp -implicitDefEqProofs (disch := first | assumption | omega | (simp only [List.length_map, List.length_append, List.length_cons, List.length_nil, List.length_take, List.length_drop, List.length_reverse]; omega)) only [↓wp_var, ↓wp_shr, ↓wp_cst, ↓wp_glob, ↓wp_dnew, ↓wp_sl2, ↓wp_xnew, ↓wp_op, ↓wp_xop, ↓wp_meth, ↓wp_tup, ↓wp_lst, ↓wp_not, ↓wp_and, ↓wp_or, ↓wp_chain, ↓wp_lc, ↓wp_call, ↓wp_pop, ↓wp_evs_nil, ↓wp_evs_cons, ↓wp_rds_nil, ↓wp_rds_var, ↓wp_rds_cst, ↓wp_rds_glob, ↓wp_rds_op, ↓wp_rds_xop, ↓wp_rds_meth, ↓wp_rds_tup, ↓wp_rds_lst, ↓wp_rds_not, ↓wp_rds_and, ↓wp_rds_or, ↓wp_rds_chain, ↓wp_rds_lc, ↓wp_rds_call, ↓wp_rds_pop, ↓wp_rds_shr, ↓wp_rds_dnew, ↓wp_rds_sl2, ↓wp_rds_xnew, ↓wp_evA_nil, ↓wp_evA_ref, ↓wp_evA_own, ↓wp_evA_cst, ↓wp_evA_glob, ↓wp_evA_var, ↓wp_evA_op, ↓wp_evA_xop, ↓wp_evA_meth, ↓wp_evA_tup, ↓wp_evA_lst, ↓wp_evA_lc, ↓wp_evA_call, ↓wp_evA_not, ↓wp_evA_and, ↓wp_evA_or, ↓wp_evA_dnew, ↓wp_evA_sl2, ↓wp_evA_pop, ↓wp_evC_nil, ↓wp_evC_one, ↓wp_evI_rng1, ↓wp_evI_rng2, ↓wp_evI_prs, ↓wp_evI_var, ↓wp_evI_shr, ↓wp_evI_op, ↓wp_evI_xop, ↓wp_evI_lst, ↓wp_evI_tup, ↓wp_evI_call, ↓wp_evI_lc, ↓wp_evI_sl2, ↓wp_exs_nil, ↓wp_exs_cons, ↓kSeq_nx, ↓kSeq_ret, ↓wp_set, ↓wp_setLc, ↓wp_setT, ↓wp_move, ↓wp_aug, ↓wp_ite, ↓wp_for, ↓wp_while, ↓wp_retV, ↓wp_ret_cst, ↓wp_ret_op, ↓wp_ret_xop, ↓wp_ret_meth, ↓wp_ret_tup, ↓wp_ret_lst, ↓wp_ret_not, ↓wp_ret_and, ↓wp_ret_or, ↓wp_ret_chain, ↓wp_ret_lc, ↓wp_ret_call, ↓wp_ret_pop, ↓wp_ret_dnew, ↓wp_ret_sl2, ↓wp_expr, ↓wp_append, ↓wp_extend, ↓wp_setItem, ↓wp_pass, ↓wp_raise0, ↓wp_raise1, ↓wp_try, ↓wp_forStep, ↓wp_lcStep, wp_ok, wp_ex, wp_bad, wpo_some, wpo_none, wpp_some, wpp_none, kTr, kNot, kAnd, kOr, kPl, kDb, kTm, kDs, kDA, kTA, kCons, kEs, kOp, kTup, kLst, kSh, kBack, kBackE, kCall, kChain2, kChainB, kChain1, kChain0, kLc2, kLc, kSeqI, kPrs, kRng1, kRng2b, kRng2, kSl1, kSl2, kSl3, kXn, kPop, kSet, kAsg, kAug, kIte, kFor2, kFor, kRet, kDrop, kApp, kExt, kSetL, kSetD, kSetI, kRaise, eTry, kMove, kRetV, intAtR, isLs, kLe2, kLe, kFn, eFn, kMid_nx, kMid_ret, takeS, dropS, getV, has, toSh_sh, toSh_lst, toSh_dct, rdO, rdOs, lk1, lks, mv1, mvs, putBack, unlks, asgN, asg_name, asg_tupU, asgs_nil, asgs_cons, wipeR, backR, seqI_L, seqI_U, mTy, outL, prim, pAddI, pAddL, pAddT, rg1T, rg2T, smallT, ltT, toNat_nat, pSubI, pFdivI, pModI, pMulI, pPowI, pNeg, pEqI, pNeI, pLtI, pLeI, pGtI, pGeI, pLenLL, pLenU, pLenS, pLenD, pItemL, pItemU, pItemS, pMaxI, pMinI, pListL, pListU, pTupL, pTupU, pIntI, pIntB, pIsiN, pIsiB, pIsiI, pIsiS, pIsiL, pIsiU, pIsiD, tyD, pIs, pIsnot, isNon, pRevL, pRevU, pSlUlo, pSlUhi, pSlLlo, pSlLhi, pSlUlo1, pSlUhi1, pSlLlo1, pSlLhi1, cutP_L, cutP_U, pStrI, ixN_0, ixN_1, ixN_m1, pFld, fldD, pAll, pAny, boolsD, pGet, isImm, List.getElem?_cons_zero, List.getElem?_cons_succ, List.set_cons_zero, List.set_cons_succ, List.length_cons, List.length_nil, List.length_map, List.map_cons, List.map_nil, List.nil_append, List.cons_append, List.append_nil, List.headD_cons, List.tail_cons, List.replicate_succ, List.replicate_zero, Int.cast_ofNat_Int, Int.natCast_one, Int.natCast_zero, Int.reduceEq, Int.reduceLT, Int.reduceLE, Int.reduceNe, Nat.reduceSub, Nat.reduceAdd, Nat.reduceLT, Nat.reduceLeDiff, true_implies, false_implies, forall_const, not_true_eq_false, not_false_eq_true, decide_eq_false_iff_not, eq_self, Bool.not_eq_true, Bool.not_eq_false, Bool.not_eq_true', Bool.not_eq_false', decide_true, decide_false, if_true, if_false, Bool.false_eq_true, Bool.true_eq_false, Bool.not_true, Bool.not_false, Bool.and_true, Bool.true_and, Bool.false_and, Bool.and_false, Bool.or_true, Bool.true_or, Bool.false_or, Bool.or_false, true_and, and_true, false_and, and_false, ite_true, ite_false, reduceIte, Option.map_some, Option.map_none, decide_eq_true_eq, List.mem_cons, List.not_mem_nil, or_false, or_true, true_or, false_or, Nat.zero_lt_succ, Nat.lt_irrefl, atI_0, atI_s, atI_m1, Option.getD_some, Option.getD_none, Option.isSome_some, Option.isSome_none, String.reduceEq, es]
  refine wp_comp (id : PyData → PyData) (fun pre ys q => ∃ l', q = [.lst l', .sh (.str t), .non, .non, .non, .non, .non, .non, .non, .non] ∧ PoolOk l' ∧ ys.length = pre.length ∧ ∀ y ∈ ys, NN y) [.int 200, .int 12, .int 4] ⟨l1, rfl, hl1, rfl, fun _ z => nomatch z⟩ ?_ ?_
  · rintro pre x post ys q e ⟨l', rfl, hl', hlen, hy⟩
    have hx : ∃ n : Int, x = .int n ∧ 0 < n ∧ n < 1000 := by
      have : x ∈ [PyData.int 200, .int 12, .int 4] := by rw [e]; simp
      simp only [List.mem_cons, List.not_mem_nil, or_false] at this
      rcases this with rfl | rfl | rfl
      · exact ⟨_, rfl, by decide, by decide⟩
      · exact ⟨_, rfl, by decide, by decide⟩
      · exact ⟨_, rfl, by decide, by decide⟩
    obtain ⟨n, rfl, hn0, hn1⟩ := hx
    show Wp (lcStep _ _ _ _ _ (.int n) _) _ _
    simp -implicitDefEqProofs (disch := first | assumption | omega | (simp only [List.length_map, List.length_append, List.length_cons, List.length_nil, List.length_take, List.length_drop, List.length_reverse]; omega)) only [↓wp_var, ↓wp_shr, ↓wp_cst, ↓wp_glob, ↓wp_dnew, ↓wp_sl2, ↓wp_xnew, ↓wp_op, ↓wp_xop, ↓wp_meth, ↓wp_tup, ↓wp_lst, ↓wp_not, ↓wp_and, ↓wp_or, ↓wp_chain, ↓wp_lc, ↓wp_call, ↓wp_pop, ↓wp_evs_nil, ↓wp_evs_cons, ↓wp_rds_nil, ↓wp_rds_var, ↓wp_rds_cst, ↓wp_rds_glob, ↓wp_rds_op, ↓wp_rds_xop, ↓wp_rds_meth, ↓wp_rds_tup, ↓wp_rds_lst, ↓wp_rds_not, ↓wp_rds_and, ↓wp_rds_or, ↓wp_rds_chain, ↓wp_rds_lc, ↓wp_rds_call, ↓wp_rds_pop, ↓wp_rds_shr, ↓wp_rds_dnew, ↓wp_rds_sl2, ↓wp_rds_xnew, ↓wp_evA_nil, ↓wp_evA_ref, ↓wp_evA_own, ↓wp_evA_cst, ↓wp_evA_glob, ↓wp_evA_var, ↓wp_evA_op, ↓wp_evA_xop, ↓wp_evA_meth, ↓wp_evA_tup, ↓wp_evA_lst, ↓wp_evA_lc, ↓wp_evA_call, ↓wp_evA_not, ↓wp_evA_and, ↓wp_evA_or, ↓wp_evA_dnew, ↓wp_evA_sl2, ↓wp_evA_pop, ↓wp_evC_nil, ↓wp_evC_one, ↓wp_evI_rng1, ↓wp_evI_rng2, ↓wp_evI_prs, ↓wp_evI_var, ↓wp_evI_shr, ↓wp_evI_op, ↓wp_evI_xop, ↓wp_evI_lst, ↓wp_evI_tup, ↓wp_evI_call, ↓wp_evI_lc, ↓wp_evI_sl2, ↓wp_exs_nil, ↓wp_exs_cons, ↓kSeq_nx, ↓kSeq_ret, ↓wp_set, ↓wp_setLc, ↓wp_setT, ↓wp_move, ↓wp_aug, ↓wp_ite, ↓wp_for, ↓wp_while, ↓wp_retV, ↓wp_ret_cst, ↓wp_ret_op, ↓wp_ret_xop, ↓wp_ret_meth, ↓wp_ret_tup, ↓wp_ret_lst, ↓wp_ret_not, ↓wp_ret_and, ↓wp_ret_or, ↓wp_ret_chain, ↓wp_ret_lc, ↓wp_ret_call, ↓wp_ret_pop, ↓wp_ret_dnew, ↓wp_ret_sl2, ↓wp_expr, ↓wp_append, ↓wp_extend, ↓wp_setItem, ↓wp_pass, ↓wp_raise0, ↓wp_raise1, ↓wp_try, ↓wp_forStep, ↓wp_lcStep, wp_ok, wp_ex, wp_bad, wpo_some, wpo_none, wpp_some, wpp_none, kTr, kNot, kAnd, kOr, kPl, kDb, kTm, kDs, kDA, kTA, kCons, kEs, kOp, kTup, kLst, kSh, kBack, kBackE, kCall, kChain2, kChainB, kChain1, kChain0, kLc2, kLc, kSeqI, kPrs, kRng1, kRng2b, kRng2, kSl1, kSl2, kSl3, kXn, kPop, kSet, kAsg, kAug, kIte, kFor2, kFor, kRet, kDrop, kApp, kExt, kSetL, kSetD, kSetI, kRaise, eTry, kMove, kRetV, intAtR, isLs, kLe2, kLe, kFn, eFn, kMid_nx, kMid_ret, takeS, dropS, getV, has, toSh_sh, toSh_lst, toSh_dct, rdO, rdOs, lk1, lks, mv1, mvs, putBack, unlks, asgN, asg_name, asg_tupU, asgs_nil, asgs_cons, wipeR, backR, seqI_L, seqI_U, mTy, outL, prim, pAddI, pAddL, pAddT, rg1T, rg2T, smallT, ltT, toNat_nat, pSubI, pFdivI, pModI, pMulI, pPowI, pNeg, pEqI, pNeI, pLtI, pLeI, pGtI, pGeI, pLenLL, pLenU, pLenS, pLenD, pItemL, pItemU, pItemS, pMaxI, pMinI, pListL, pListU, pTupL, pTupU, pIntI, pIntB, pIsiN, pIsiB, pIsiI, pIsiS, pIsiL, pIsiU, pIsiD, tyD, pIs, pIsnot, isNon, pRevL, pRevU, pSlUlo, pSlUhi, pSlLlo, pSlLhi, pSlUlo1, pSlUhi1, pSlLlo1, pSlLhi1, cutP_L, cutP_U, pStrI, ixN_0, ixN_1, ixN_m1, pFld, fldD, pAll, pAny, boolsD, pGet, isImm, List.getElem?_cons_zero, List.getElem?_cons_succ, List.set_cons_zero, List.set_cons_succ, List.length_cons, List.length_nil, List.length_map, List.map_cons, List.map_nil, List.nil_append, List.cons_append, List.append_nil, List.headD_cons, List.tail_cons, List.replicate_succ, List.replicate_zero, Int.cast_ofNat_Int, Int.natCast_one, Int.natCast_zero, Int.reduceEq, Int.reduceLT, Int.reduceLE, Int.reduceNe, Nat.reduceSub, Nat.reduceAdd, Nat.reduceLT, Nat.reduceLeDiff, true_implies, false_implies, forall_const, not_true_eq_false, not_false_eq_true, decide_eq_false_iff_not, eq_self, Bool.not_eq_true, Bool.not_eq_false, Bool.not_eq_true', Bool.not_eq_false', decide_true, decide_false, if_true, if_false, Bool.false_eq_true, Bool.true_eq_false, Bool.not_true, Bool.not_false, Bool.and_true, Bool.true_and, Bool.false_and, Bool.and_false, Bool.or_true, Bool.true_or, Bool.false_or, Bool.or_false, true_and, and_true, false_and, and_false, ite_true, ite_false, reduceIte, Option.map_some, Option.map_none, decide_eq_true_eq, List.mem_cons, List.not_mem_nil, or_false, or_true, true_or, false_or, Nat.zero_lt_succ, Nat.lt_irrefl, atI_0, atI_s, atI_m1, Option.getD_some, Option.getD_none, Option.isSome_some, Option.isSome_none, String.reduceEq]
    refine (hT l' n hl' hn0 (by omega)).to ?_
    rintro _ _ ⟨y1, l2, rfl, rfl, hy1, hl2⟩
    simp -implicitDefEqProofs (disch := first | assumption | omega | (simp only [List.length_map, List.length_append, List.length_cons, List.length_nil, List.length_take, List.length_drop, List.length_reverse]; omega)) only [↓wp_var, ↓wp_shr, ↓wp_cst, ↓wp_glob, ↓wp_dnew, ↓wp_sl2, ↓wp_xnew, ↓wp_op, ↓wp_xop, ↓wp_meth, ↓wp_tup, ↓wp_lst, ↓wp_not, ↓wp_and, ↓wp_or, ↓wp_chain, ↓wp_lc, ↓wp_call, ↓wp_pop, ↓wp_evs_nil, ↓wp_evs_cons, ↓wp_rds_nil, ↓wp_rds_var, ↓wp_rds_cst, ↓wp_rds_glob, ↓wp_rds_op, ↓wp_rds_xop, ↓wp_rds_meth, ↓wp_rds_tup, ↓wp_rds_lst, ↓wp_rds_not, ↓wp_rds_and, ↓wp_rds_or, ↓wp_rds_chain, ↓wp_rds_lc, ↓wp_rds_call, ↓wp_rds_pop, ↓wp_rds_shr, ↓wp_rds_dnew, ↓wp_rds_sl2, ↓wp_rds_xnew, ↓wp_evA_nil, ↓wp_evA_ref, ↓wp_evA_own, ↓wp_evA_cst, ↓wp_evA_glob, ↓wp_evA_var, ↓wp_evA_op, ↓wp_evA_xop, ↓wp_evA_meth, ↓wp_evA_tup, ↓wp_evA_lst, ↓wp_evA_lc, ↓wp_evA_call, ↓wp_evA_not, ↓wp_evA_and, ↓wp_evA_or, ↓wp_evA_dnew, ↓wp_evA_sl2, ↓wp_evA_pop, ↓wp_evC_nil, ↓wp_evC_one, ↓wp_evI_rng1, ↓wp_evI_rng2, ↓wp_evI_prs, ↓wp_evI_var, ↓wp_evI_shr, ↓wp_evI_op, ↓wp_evI_xop, ↓wp_evI_lst, ↓wp_evI_tup, ↓wp_evI_call, ↓wp_evI_lc, ↓wp_evI_sl2, ↓wp_exs_nil, ↓wp_exs_cons, ↓kSeq_nx, ↓kSeq_ret, ↓wp_set, ↓wp_setLc, ↓wp_setT, ↓wp_move, ↓wp_aug, ↓wp_ite, ↓wp_for, ↓wp_while, ↓wp_retV, ↓wp_ret_cst, ↓wp_ret_op, ↓wp_ret_xop, ↓wp_ret_meth, ↓wp_ret_tup, ↓wp_ret_lst, ↓wp_ret_not, ↓wp_ret_and, ↓wp_ret_or, ↓wp_ret_chain, ↓wp_ret_lc, ↓wp_ret_call, ↓wp_ret_pop, ↓wp_ret_dnew, ↓wp_ret_sl2, ↓wp_expr, ↓wp_append, ↓wp_extend, ↓wp_setItem, ↓wp_pass, ↓wp_raise0, ↓wp_raise1, ↓wp_try, ↓wp_forStep, ↓wp_lcStep, wp_ok, wp_ex, wp_bad, wpo_some, wpo_none, wpp_some, wpp_none, kTr, kNot, kAnd, kOr, kPl, kDb, kTm, kDs, kDA, kTA, kCons, kEs, kOp, kTup, kLst, kSh, kBack, kBackE, kCall, kChain2, kChainB, kChain1, kChain0, kLc2, kLc, kSeqI, kPrs, kRng1, kRng2b, kRng2, kSl1, kSl2, kSl3, kXn, kPop, kSet, kAsg, kAug, kIte, kFor2, kFor, kRet, kDrop, kApp, kExt, kSetL, kSetD, kSetI, kRaise, eTry, kMove, kRetV, intAtR, isLs, kLe2, kLe, kFn, eFn, kMid_nx, kMid_ret, takeS, dropS, getV, has, toSh_sh, toSh_lst, toSh_dct, rdO, rdOs, lk1, lks, mv1, mvs, putBack, unlks, asgN, asg_name, asg_tupU, asgs_nil, asgs_cons, wipeR, backR, seqI_L, seqI_U, mTy, outL, prim, pAddI, pAddL, pAddT, rg1T, rg2T, smallT, ltT, toNat_nat, pSubI, pFdivI, pModI, pMulI, pPowI, pNeg, pEqI, pNeI, pLtI, pLeI, pGtI, pGeI, pLenLL, pLenU, pLenS, pLenD, pItemL, pItemU, pItemS, pMaxI, pMinI, pListL, pListU, pTupL, pTupU, pIntI, pIntB, pIsiN, pIsiB, pIsiI, pIsiS, pIsiL, pIsiU, pIsiD, tyD, pIs, pIsnot, isNon, pRevL, pRevU, pSlUlo, pSlUhi, pSlLlo, pSlLhi, pSlUlo1, pSlUhi1, pSlLlo1, pSlLhi1, cutP_L, cutP_U, pStrI, ixN_0, ixN_1, ixN_m1, pFld, fldD, pAll, pAny, boolsD, pGet, isImm, List.getElem?_cons_zero, List.getElem?_cons_succ, List.set_cons_zero, List.set_cons_succ, List.length_cons, List.length_nil, List.length_map, List.map_cons, List.map_nil, List.nil_append, List.cons_append, List.append_nil, List.headD_cons, List.tail_cons, List.replicate_succ, List.replicate_zero, Int.cast_ofNat_Int, Int.natCast_one, Int.natCast_zero, Int.reduceEq, Int.reduceLT, Int.reduceLE, Int.reduceNe, Nat.reduceSub, Nat.reduceAdd, Nat.reduceLT, Nat.reduceLeDiff, true_implies, false_implies, forall_const, not_true_eq_false, not_false_eq_true, decide_eq_false_iff_not, eq_self, Bool.not_eq_true, Bool.not_eq_false, Bool.not_eq_true', Bool.not_eq_false', decide_true, decide_false, if_true, if_false, Bool.false_eq_true, Bool.true_eq_false, Bool.not_true, Bool.not_false, Bool.and_true, Bool.true_and, Bool.false_and, Bool.and_false, Bool.or_true, Bool.true_or, Bool.false_or, Bool.or_false, true_and, and_true, false_and, and_false, ite_true, ite_false, reduceIte, Option.map_some, Option.map_none, decide_eq_true_eq, List.mem_cons, List.not_mem_nil, or_false, or_true, true_or, false_or, Nat.zero_lt_succ, Nat.lt_irrefl, atI_0, atI_s, atI_m1, Option.getD_some, Option.getD_none, Option.isSome_some, Option.isSome_none, String.reduceEq]
    refine (hT l2 2 hl2 (by decide) (by decide)).to ?_
    rintro _ _ ⟨y2, l3, rfl, rfl, hy2, hl3⟩
    obtain ⟨d, ed, hd⟩ := two_at (x := y2) (by omega) y1
    simp -implicitDefEqProofs (disch := first | assumption | omega | (simp only [List.length_map, List.length_append, List.length_cons, List.length_nil, List.length_take, List.length_drop, List.length_reverse]; omega)) only [↓wp_var, ↓wp_shr, ↓wp_cst, ↓wp_glob, ↓wp_dnew, ↓wp_sl2, ↓wp_xnew, ↓wp_op, ↓wp_xop, ↓wp_meth, ↓wp_tup, ↓wp_lst, ↓wp_not, ↓wp_and, ↓wp_or, ↓wp_chain, ↓wp_lc, ↓wp_call, ↓wp_pop, ↓wp_evs_nil, ↓wp_evs_cons, ↓wp_rds_nil, ↓wp_rds_var, ↓wp_rds_cst, ↓wp_rds_glob, ↓wp_rds_op, ↓wp_rds_xop, ↓wp_rds_meth, ↓wp_rds_tup, ↓wp_rds_lst, ↓wp_rds_not, ↓wp_rds_and, ↓wp_rds_or, ↓wp_rds_chain, ↓wp_rds_lc, ↓wp_rds_call, ↓wp_rds_pop, ↓wp_rds_shr, ↓wp_rds_dnew, ↓wp_rds_sl2, ↓wp_rds_xnew, ↓wp_evA_nil, ↓wp_evA_ref, ↓wp_evA_own, ↓wp_evA_cst, ↓wp_evA_glob, ↓wp_evA_var, ↓wp_evA_op, ↓wp_evA_xop, ↓wp_evA_meth, ↓wp_evA_tup, ↓wp_evA_lst, ↓wp_evA_lc, ↓wp_evA_call, ↓wp_evA_not, ↓wp_evA_and, ↓wp_evA_or, ↓wp_evA_dnew, ↓wp_evA_sl2, ↓wp_evA_pop, ↓wp_evC_nil, ↓wp_evC_one, ↓wp_evI_rng1, ↓wp_evI_rng2, ↓wp_evI_prs, ↓wp_evI_var, ↓wp_evI_shr, ↓wp_evI_op, ↓wp_evI_xop, ↓wp_evI_lst, ↓wp_evI_tup, ↓wp_evI_call, ↓wp_evI_lc, ↓wp_evI_sl2, ↓wp_exs_nil, ↓wp_exs_cons, ↓kSeq_nx, ↓kSeq_ret, ↓wp_set, ↓wp_setLc, ↓wp_setT, ↓wp_move, ↓wp_aug, ↓wp_ite, ↓wp_for, ↓wp_while, ↓wp_retV, ↓wp_ret_cst, ↓wp_ret_op, ↓wp_ret_xop, ↓wp_ret_meth, ↓wp_ret_tup, ↓wp_ret_lst, ↓wp_ret_not, ↓wp_ret_and, ↓wp_ret_or, ↓wp_ret_chain, ↓wp_ret_lc, ↓wp_ret_call, ↓wp_ret_pop, ↓wp_ret_dnew, ↓wp_ret_sl2, ↓wp_expr, ↓wp_append, ↓wp_extend, ↓wp_setItem, ↓wp_pass, ↓wp_raise0, ↓wp_raise1, ↓wp_try, ↓wp_forStep, ↓wp_lcStep, wp_ok, wp_ex, wp_bad, wpo_some, wpo_none, wpp_some, wpp_none, kTr, kNot, kAnd, kOr, kPl, kDb, kTm, kDs, kDA, kTA, kCons, kEs, kOp, kTup, kLst, kSh, kBack, kBackE, kCall, kChain2, kChainB, kChain1, kChain0, kLc2, kLc, kSeqI, kPrs, kRng1, kRng2b, kRng2, kSl1, kSl2, kSl3, kXn, kPop, kSet, kAsg, kAug, kIte, kFor2, kFor, kRet, kDrop, kApp, kExt, kSetL, kSetD, kSetI, kRaise, eTry, kMove, kRetV, intAtR, isLs, kLe2, kLe, kFn, eFn, kMid_nx, kMid_ret, takeS, dropS, getV, has, toSh_sh, toSh_lst, toSh_dct, rdO, rdOs, lk1, lks, mv1, mvs, putBack, unlks, asgN, asg_name, asg_tupU, asgs_nil, asgs_cons, wipeR, backR, seqI_L, seqI_U, mTy, outL, prim, pAddI, pAddL, pAddT, rg1T, rg2T, smallT, ltT, toNat_nat, pSubI, pFdivI, pModI, pMulI, pPowI, pNeg, pEqI, pNeI, pLtI, pLeI, pGtI, pGeI, pLenLL, pLenU, pLenS, pLenD, pItemL, pItemU, pItemS, pMaxI, pMinI, pListL, pListU, pTupL, pTupU, pIntI, pIntB, pIsiN, pIsiB, pIsiI, pIsiS, pIsiL, pIsiU, pIsiD, tyD, pIs, pIsnot, isNon, pRevL, pRevU, pSlUlo, pSlUhi, pSlLlo, pSlLhi, pSlUlo1, pSlUhi1, pSlLlo1, pSlLhi1, cutP_L, cutP_U, pStrI, ixN_0, ixN_1, ixN_m1, pFld, fldD, pAll, pAny, boolsD, pGet, isImm, List.getElem?_cons_zero, List.getElem?_cons_succ, List.set_cons_zero, List.set_cons_succ, List.length_cons, List.length_nil, List.length_map, List.map_cons, List.map_nil, List.nil_append, List.cons_append, List.append_nil, List.headD_cons, List.tail_cons, List.replicate_succ, List.replicate_zero, Int.cast_ofNat_Int, Int.natCast_one, Int.natCast_zero, Int.reduceEq, Int.reduceLT, Int.reduceLE, Int.reduceNe, Nat.reduceSub, Nat.reduceAdd, Nat.reduceLT, Nat.reduceLeDiff, true_implies, false_implies, forall_const, not_true_eq_false, not_false_eq_true, decide_eq_false_iff_not, eq_self, Bool.not_eq_true, Bool.not_eq_false, Bool.not_eq_true', Bool.not_eq_false', decide_true, decide_false, if_true, if_false, Bool.false_eq_true, Bool.true_eq_false, Bool.not_true, Bool.not_false, Bool.and_true, Bool.true_and, Bool.false_and, Bool.and_false, Bool.or_true, Bool.true_or, Bool.false_or, Bool.or_false, true_and, and_true, false_and, and_false, ite_true, ite_false, reduceIte, Option.map_some, Option.map_none, decide_eq_true_eq, List.mem_cons, List.not_mem_nil, or_false, or_true, true_or, false_or, Nat.zero_lt_succ, Nat.lt_irrefl, atI_0, atI_s, atI_m1, Option.getD_some, Option.getD_none, Option.isSome_some, Option.isSome_none, String.reduceEq, ed]
    refine ⟨l3, rfl, hl3, by simp [hlen], fun y hyy => ?_⟩
    rcases List.mem_append.mp hyy with q | q
    · exact hy y q
    · rw [List.mem_singleton.mp q]; exact hd
  · rintro ys q ⟨l', rfl, hl', hlen, hy⟩
    obtain ⟨a, b, c, rfl⟩ : ∃ a b c, ys = [a, b, c] := by
      match ys, hlen with
      | [a, b, c], _ => exact ⟨a, b, c, rfl⟩
    have ha := hy a (by simp)
    have hb := hy b (by simp)
    have hc := hy c (by simp)
    simp -implicitDefEqProofs (disch := first | assumption | omega | (simp only [List.length_map, List.length_append, List.length_cons, List.length_nil, List.length_take, List.length_drop, List.length_reverse]; omega)) only [↓wp_var, ↓wp_shr, ↓wp_cst, ↓wp_glob, ↓wp_dnew, ↓wp_sl2, ↓wp_xnew, ↓wp_op, ↓wp_xop, ↓wp_meth, ↓wp_tup, ↓wp_lst, ↓wp_not, ↓wp_and, ↓wp_or, ↓wp_chain, ↓wp_lc, ↓wp_call, ↓wp_pop, ↓wp_evs_nil, ↓wp_evs_cons, ↓wp_rds_nil, ↓wp_rds_var, ↓wp_rds_cst, ↓wp_rds_glob, ↓wp_rds_op, ↓wp_rds_xop, ↓wp_rds_meth, ↓wp_rds_tup, ↓wp_rds_lst, ↓wp_rds_not, ↓wp_rds_and, ↓wp_rds_or, ↓wp_rds_chain, ↓wp_rds_lc, ↓wp_rds_call, ↓wp_rds_pop, ↓wp_rds_shr, ↓wp_rds_dnew, ↓wp_rds_sl2, ↓wp_rds_xnew, ↓wp_evA_nil, ↓wp_evA_ref, ↓wp_evA_own, ↓wp_evA_cst, ↓wp_evA_glob, ↓wp_evA_var, ↓wp_evA_op, ↓wp_evA_xop, ↓wp_evA_meth, ↓wp_evA_tup, ↓wp_evA_lst, ↓wp_evA_lc, ↓wp_evA_call, ↓wp_evA_not, ↓wp_evA_and, ↓wp_evA_or, ↓wp_evA_dnew, ↓wp_evA_sl2, ↓wp_evA_pop, ↓wp_evC_nil, ↓wp_evC_one, ↓wp_evI_rng1, ↓wp_evI_rng2, ↓wp_evI_prs, ↓wp_evI_var, ↓wp_evI_shr, ↓wp_evI_op, ↓wp_evI_xop, ↓wp_evI_lst, ↓wp_evI_tup, ↓wp_evI_call, ↓wp_evI_lc, ↓wp_evI_sl2, ↓wp_exs_nil, ↓wp_exs_cons, ↓kSeq_nx, ↓kSeq_ret, ↓wp_set, ↓wp_setLc, ↓wp_setT, ↓wp_move, ↓wp_aug, ↓wp_ite, ↓wp_for, ↓wp_while, ↓wp_retV, ↓wp_ret_cst, ↓wp_ret_op, ↓wp_ret_xop, ↓wp_ret_meth, ↓wp_ret_tup, ↓wp_ret_lst, ↓wp_ret_not, ↓wp_ret_and, ↓wp_ret_or, ↓wp_ret_chain, ↓wp_ret_lc, ↓wp_ret_call, ↓wp_ret_pop, ↓wp_ret_dnew, ↓wp_ret_sl2, ↓wp_expr, ↓wp_append, ↓wp_extend, ↓wp_setItem, ↓wp_pass, ↓wp_raise0, ↓wp_raise1, ↓wp_try, ↓wp_forStep, ↓wp_lcStep, wp_ok, wp_ex, wp_bad, wpo_some, wpo_none, wpp_some, wpp_none, kTr, kNot, kAnd, kOr, kPl, kDb, kTm, kDs, kDA, kTA, kCons, kEs, kOp, kTup, kLst, kSh, kBack, kBackE, kCall, kChain2, kChainB, kChain1, kChain0, kLc2, kLc, kSeqI, kPrs, kRng1, kRng2b, kRng2, kSl1, kSl2, kSl3, kXn, kPop, kSet, kAsg, kAug, kIte, kFor2, kFor, kRet, kDrop, kApp, kExt, kSetL, kSetD, kSetI, kRaise, eTry, kMove, kRetV, intAtR, isLs, kLe2, kLe, kFn, eFn, kMid_nx, kMid_ret, takeS, dropS, getV, has, toSh_sh, toSh_lst, toSh_dct, rdO, rdOs, lk1, lks, mv1, mvs, putBack, unlks, asgN, asg_name, asg_tupU, asgs_nil, asgs_cons, wipeR, backR, seqI_L, seqI_U, mTy, outL, prim, pAddI, pAddL, pAddT, rg1T, rg2T, smallT, ltT, toNat_nat, pSubI, pFdivI, pModI, pMulI, pPowI, pNeg, pEqI, pNeI, pLtI, pLeI, pGtI, pGeI, pLenLL, pLenU, pLenS, pLenD, pItemL, pItemU, pItemS, pMaxI, pMinI, pListL, pListU, pTupL, pTupU, pIntI, pIntB, pIsiN, pIsiB, pIsiI, pIsiS, pIsiL, pIsiU, pIsiD, tyD, pIs, pIsnot, isNon, pRevL, pRevU, pSlUlo, pSlUhi, pSlLlo, pSlLhi, pSlUlo1, pSlUhi1, pSlLlo1, pSlLhi1, cutP_L, cutP_U, pStrI, ixN_0, ixN_1, ixN_m1, pFld, fldD, pAll, pAny, boolsD, pGet, isImm, List.getElem?_cons_zero, List.getElem?_cons_succ, List.set_cons_zero, List.set_cons_succ, List.length_cons, List.length_nil, List.length_map, List.map_cons, List.map_nil, List.nil_append, List.cons_append, List.append_nil, List.headD_cons, List.tail_cons, List.replicate_succ, List.replicate_zero, Int.cast_ofNat_Int, Int.natCast_one, Int.natCast_zero, Int.reduceEq, Int.reduceLT, Int.reduceLE, Int.reduceNe, Nat.reduceSub, Nat.reduceAdd, Nat.reduceLT, Nat.reduceLeDiff, true_implies, false_implies, forall_const, not_true_eq_false, not_false_eq_true, decide_eq_false_iff_not, eq_self, Bool.not_eq_true, Bool.not_eq_false, Bool.not_eq_true', Bool.not_eq_false', decide_true, decide_false, if_true, if_false, Bool.false_eq_true, Bool.true_eq_false, Bool.not_true, Bool.not_false, Bool.and_true, Bool.true_and, Bool.false_and, Bool.and_false, Bool.or_true, Bool.true_or, Bool.false_or, Bool.or_false, true_and, and_true, false_and, and_false, ite_true, ite_false, reduceIte, Option.map_some, Option.map_none, decide_eq_true_eq, List.mem_cons, List.not_mem_nil, or_false, or_true, true_or, false_or, Nat.zero_lt_succ, Nat.lt_irrefl, atI_0, atI_s, atI_m1, Option.getD_some, Option.getD_none, Option.isSome_some, Option.isSome_none, String.reduceEq]
    refine wp_comp (id : PyData → PyData) (fun pre ys q => q = [.lst l', .sh (.str t), .sh (.list [a, b, c]), .non, .non, .non, .non, .non, .non, .non] ∧ ys.length = pre.length ∧ ∀ y ∈ ys, NN y) [a, b, c] ⟨rfl, rfl, fun _ z => nomatch z⟩ ?_ ?_
    · rintro pre x post ys q e ⟨rfl, hlen, hy⟩
      have hx : NN x := by
        have : x ∈ [a, b, c] := by rw [e]; simp
        simp only [List.mem_cons, List.not_mem_nil, or_false] at this
        rcases this with rfl | rfl | rfl
        · exact ha
        · exact hb
        · exact hc
      obtain ⟨bb, ee, p1, p2, p3⟩ := other_at hx
      show Wp (lcStep _ _ _ _ _ x _) _ _
      simp -implicitDefEqProofs (disch := first | assumption | omega | (simp only [List.length_map, List.length_append, List.length_cons, List.length_nil, List.length_take, List.length_drop, List.length_reverse]; omega)) only [↓wp_var, ↓wp_shr, ↓wp_cst, ↓wp_glob, ↓wp_dnew, ↓wp_sl2, ↓wp_xnew, ↓wp_op, ↓wp_xop, ↓wp_meth, ↓wp_tup, ↓wp_lst, ↓wp_not, ↓wp_and, ↓wp_or, ↓wp_chain, ↓wp_lc, ↓wp_call, ↓wp_pop, ↓wp_evs_nil, ↓wp_evs_cons, ↓wp_rds_nil, ↓wp_rds_var, ↓wp_rds_cst, ↓wp_rds_glob, ↓wp_rds_op, ↓wp_rds_xop, ↓wp_rds_meth, ↓wp_rds_tup, ↓wp_rds_lst, ↓wp_rds_not, ↓wp_rds_and, ↓wp_rds_or, ↓wp_rds_chain, ↓wp_rds_lc, ↓wp_rds_call, ↓wp_rds_pop, ↓wp_rds_shr, ↓wp_rds_dnew, ↓wp_rds_sl2, ↓wp_rds_xnew, ↓wp_evA_nil, ↓wp_evA_ref, ↓wp_evA_own, ↓wp_evA_cst, ↓wp_evA_glob, ↓wp_evA_var, ↓wp_evA_op, ↓wp_evA_xop, ↓wp_evA_meth, ↓wp_evA_tup, ↓wp_evA_lst, ↓wp_evA_lc, ↓wp_evA_call, ↓wp_evA_not, ↓wp_evA_and, ↓wp_evA_or, ↓wp_evA_dnew, ↓wp_evA_sl2, ↓wp_evA_pop, ↓wp_evC_nil, ↓wp_evC_one, ↓wp_evI_rng1, ↓wp_evI_rng2, ↓wp_evI_prs, ↓wp_evI_var, ↓wp_evI_shr, ↓wp_evI_op, ↓wp_evI_xop, ↓wp_evI_lst, ↓wp_evI_tup, ↓wp_evI_call, ↓wp_evI_lc, ↓wp_evI_sl2, ↓wp_exs_nil, ↓wp_exs_cons, ↓kSeq_nx, ↓kSeq_ret, ↓wp_set, ↓wp_setLc, ↓wp_setT, ↓wp_move, ↓wp_aug, ↓wp_ite, ↓wp_for, ↓wp_while, ↓wp_retV, ↓wp_ret_cst, ↓wp_ret_op, ↓wp_ret_xop, ↓wp_ret_meth, ↓wp_ret_tup, ↓wp_ret_lst, ↓wp_ret_not, ↓wp_ret_and, ↓wp_ret_or, ↓wp_ret_chain, ↓wp_ret_lc, ↓wp_ret_call, ↓wp_ret_pop, ↓wp_ret_dnew, ↓wp_ret_sl2, ↓wp_expr, ↓wp_append, ↓wp_extend, ↓wp_setItem, ↓wp_pass, ↓wp_raise0, ↓wp_raise1, ↓wp_try, ↓wp_forStep, ↓wp_lcStep, wp_ok, wp_ex, wp_bad, wpo_some, wpo_none, wpp_some, wpp_none, kTr, kNot, kAnd, kOr, kPl, kDb, kTm, kDs, kDA, kTA, kCons, kEs, kOp, kTup, kLst, kSh, kBack, kBackE, kCall, kChain2, kChainB, kChain1, kChain0, kLc2, kLc, kSeqI, kPrs, kRng1, kRng2b, kRng2, kSl1, kSl2, kSl3, kXn, kPop, kSet, kAsg, kAug, kIte, kFor2, kFor, kRet, kDrop, kApp, kExt, kSetL, kSetD, kSetI, kRaise, eTry, kMove, kRetV, intAtR, isLs, kLe2, kLe, kFn, eFn, kMid_nx, kMid_ret, takeS, dropS, getV, has, toSh_sh, toSh_lst, toSh_dct, rdO, rdOs, lk1, lks, mv1, mvs, putBack, unlks, asgN, asg_name, asg_tupU, asgs_nil, asgs_cons, wipeR, backR, seqI_L, seqI_U, mTy, outL, prim, pAddI, pAddL, pAddT, rg1T, rg2T, smallT, ltT, toNat_nat, pSubI, pFdivI, pModI, pMulI, pPowI, pNeg, pEqI, pNeI, pLtI, pLeI, pGtI, pGeI, pLenLL, pLenU, pLenS, pLenD, pItemL, pItemU, pItemS, pMaxI, pMinI, pListL, pListU, pTupL, pTupU, pIntI, pIntB, pIsiN, pIsiB, pIsiI, pIsiS, pIsiL, pIsiU, pIsiD, tyD, pIs, pIsnot, isNon, pRevL, pRevU, pSlUlo, pSlUhi, pSlLlo, pSlLhi, pSlUlo1, pSlUhi1, pSlLlo1, pSlLhi1, cutP_L, cutP_U, pStrI, ixN_0, ixN_1, ixN_m1, pFld, fldD, pAll, pAny, boolsD, pGet, isImm, List.getElem?_cons_zero, List.getElem?_cons_succ, List.set_cons_zero, List.set_cons_succ, List.length_cons, List.length_nil, List.length_map, List.map_cons, List.map_nil, List.nil_append, List.cons_append, List.append_nil, List.headD_cons, List.tail_cons, List.replicate_succ, List.replicate_zero, Int.cast_ofNat_Int, Int.natCast_one, Int.natCast_zero, Int.reduceEq, Int.reduceLT, Int.reduceLE, Int.reduceNe, Nat.reduceSub, Nat.reduceAdd, Nat.reduceLT, Nat.reduceLeDiff, true_implies, false_implies, forall_const, not_true_eq_false, not_false_eq_true, decide_eq_false_iff_not, eq_self, Bool.not_eq_true, Bool.not_eq_false, Bool.not_eq_true', Bool.not_eq_false', decide_true, decide_false, if_true, if_false, Bool.false_eq_true, Bool.true_eq_false, Bool.not_true, Bool.not_false, Bool.and_true, Bool.true_and, Bool.false_and, Bool.and_false, Bool.or_true, Bool.true_or, Bool.false_or, Bool.or_false, true_and, and_true, false_and, and_false, ite_true, ite_false, reduceIte, Option.map_some, Option.map_none, decide_eq_true_eq, List.mem_cons, List.not_mem_nil, or_false, or_true, true_or, false_or, Nat.zero_lt_succ, Nat.lt_irrefl, atI_0, atI_s, atI_m1, Option.getD_some, Option.getD_none, Option.isSome_some, Option.isSome_none, String.reduceEq, p1, p2]
      refine ⟨by simp [hlen], fun y hyy => ?_⟩
      rcases List.mem_append.mp hyy with q | q
      · exact hy y q
      · rw [List.mem_singleton.mp q]; exact p3
    · rintro zs q ⟨rfl, hlen, hz⟩
      obtain ⟨a', b', c', rfl⟩ : ∃ a b c, zs = [a, b, c] := by
        match zs, hlen with
        | [a, b, c], _ => exact ⟨a, b, c, rfl⟩
      have ha' := hz a' (by simp)
      have hb' := hz b' (by simp)
      have hc' := hz c' (by simp)
      simp -implicitDefEqProofs (disch := first | assumption | omega | (simp only [List.length_map, List.length_append, List.length_cons, List.length_nil, List.length_take, List.length_drop, List.length_reverse]; omega)) only [↓wp_var, ↓wp_shr, ↓wp_cst, ↓wp_glob, ↓wp_dnew, ↓wp_sl2, ↓wp_xnew, ↓wp_op, ↓wp_xop, ↓wp_meth, ↓wp_tup, ↓wp_lst, ↓wp_not, ↓wp_and, ↓wp_or, ↓wp_chain, ↓wp_lc, ↓wp_call, ↓wp_pop, ↓wp_evs_nil, ↓wp_evs_cons, ↓wp_rds_nil, ↓wp_rds_var, ↓wp_rds_cst, ↓wp_rds_glob, ↓wp_rds_op, ↓wp_rds_xop, ↓wp_rds_meth, ↓wp_rds_tup, ↓wp_rds_lst, ↓wp_rds_not, ↓wp_rds_and, ↓wp_rds_or, ↓wp_rds_chain, ↓wp_rds_lc, ↓wp_rds_call, ↓wp_rds_pop, ↓wp_rds_shr, ↓wp_rds_dnew, ↓wp_rds_sl2, ↓wp_rds_xnew, ↓wp_evA_nil, ↓wp_evA_ref, ↓wp_evA_own, ↓wp_evA_cst, ↓wp_evA_glob, ↓wp_evA_var, ↓wp_evA_op, ↓wp_evA_xop, ↓wp_evA_meth, ↓wp_evA_tup, ↓wp_evA_lst, ↓wp_evA_lc, ↓wp_evA_call, ↓wp_evA_not, ↓wp_evA_and, ↓wp_evA_or, ↓wp_evA_dnew, ↓wp_evA_sl2, ↓wp_evA_pop, ↓wp_evC_nil, ↓wp_evC_one, ↓wp_evI_rng1, ↓wp_evI_rng2, ↓wp_evI_prs, ↓wp_evI_var, ↓wp_evI_shr, ↓wp_evI_op, ↓wp_evI_xop, ↓wp_evI_lst, ↓wp_evI_tup, ↓wp_evI_call, ↓wp_evI_lc, ↓wp_evI_sl2, ↓wp_exs_nil, ↓wp_exs_cons, ↓kSeq_nx, ↓kSeq_ret, ↓wp_set, ↓wp_setLc, ↓wp_setT, ↓wp_move, ↓wp_aug, ↓wp_ite, ↓wp_for, ↓wp_while, ↓wp_retV, ↓wp_ret_cst, ↓wp_ret_op, ↓wp_ret_xop, ↓wp_ret_meth, ↓wp_ret_tup, ↓wp_ret_lst, ↓wp_ret_not, ↓wp_ret_and, ↓wp_ret_or, ↓wp_ret_chain, ↓wp_ret_lc, ↓wp_ret_call, ↓wp_ret_pop, ↓wp_ret_dnew, ↓wp_ret_sl2, ↓wp_expr, ↓wp_append, ↓wp_extend, ↓wp_setItem, ↓wp_pass, ↓wp_raise0, ↓wp_raise1, ↓wp_try, ↓wp_forStep, ↓wp_lcStep, wp_ok, wp_ex, wp_bad, wpo_some, wpo_none, wpp_some, wpp_none, kTr, kNot, kAnd, kOr, kPl, kDb, kTm, kDs, kDA, kTA, kCons, kEs, kOp, kTup, kLst, kSh, kBack, kBackE, kCall, kChain2, kChainB, kChain1, kChain0, kLc2, kLc, kSeqI, kPrs, kRng1, kRng2b, kRng2, kSl1, kSl2, kSl3, kXn, kPop, kSet, kAsg, kAug, kIte, kFor2, kFor, kRet, kDrop, kApp, kExt, kSetL, kSetD, kSetI, kRaise, eTry, kMove, kRetV, intAtR, isLs, kLe2, kLe, kFn, eFn, kMid_nx, kMid_ret, takeS, dropS, getV, has, toSh_sh, toSh_lst, toSh_dct, rdO, rdOs, lk1, lks, mv1, mvs, putBack, unlks, asgN, asg_name, asg_tupU, asgs_nil, asgs_cons, wipeR, backR, seqI_L, seqI_U, mTy, outL, prim, pAddI, pAddL, pAddT, rg1T, rg2T, smallT, ltT, toNat_nat, pSubI, pFdivI, pModI, pMulI, pPowI, pNeg, pEqI, pNeI, pLtI, pLeI, pGtI, pGeI, pLenLL, pLenU, pLenS, pLenD, pItemL, pItemU, pItemS, pMaxI, pMinI, pListL, pListU, pTupL, pTupU, pIntI, pIntB, pIsiN, pIsiB, pIsiI, pIsiS, pIsiL, pIsiU, pIsiD, tyD, pIs, pIsnot, isNon, pRevL, pRevU, pSlUlo, pSlUhi, pSlLlo, pSlLhi, pSlUlo1, pSlUhi1, pSlLlo1, pSlLhi1, cutP_L, cutP_U, pStrI, ixN_0, ixN_1, ixN_m1, pFld, fldD, pAll, pAny, boolsD, pGet, isImm, List.getElem?_cons_zero, List.getElem?_cons_succ, List.set_cons_zero, List.set_cons_succ, List.length_cons, List.length_nil, List.length_map, List.map_cons, List.map_nil, List.nil_append, List.cons_append, List.append_nil, List.headD_cons, List.tail_cons, List.replicate_succ, List.replicate_zero, Int.cast_ofNat_Int, Int.natCast_one, Int.natCast_zero, Int.reduceEq, Int.reduceLT, Int.reduceLE, Int.reduceNe, Nat.reduceSub, Nat.reduceAdd, Nat.reduceLT, Nat.reduceLeDiff, true_implies, false_implies, forall_const, not_true_eq_false, not_false_eq_true, decide_eq_false_iff_not, eq_self, Bool.not_eq_true, Bool.not_eq_false, Bool.not_eq_true', Bool.not_eq_false', decide_true, decide_false, if_true, if_false, Bool.false_eq_true, Bool.true_eq_false, Bool.not_true, Bool.not_false, Bool.and_true, Bool.true_and, Bool.false_and, Bool.and_false, Bool.or_true, Bool.true_or, Bool.false_or, Bool.or_false, true_and, and_true, false_and, and_false, ite_true, ite_false, reduceIte, Option.map_some, Option.map_none, decide_eq_true_eq, List.mem_cons, List.not_mem_nil, or_false, or_true, true_or, false_or, Nat.zero_lt_succ, Nat.lt_irrefl, atI_0, atI_s, atI_m1, Option.getD_some, Option.getD_none, Option.isSome_some, Option.isSome_none, String.reduceEq]
      refine (hM t a b c).to ?_
      rintro _ _ ⟨rfl, rfl⟩
      simp -implicitDefEqProofs (disch := first | assumption | omega | (simp only [List.length_map, List.length_append, List.length_cons, List.length_nil, List.length_take, List.length_drop, List.length_reverse]; omega)) only [↓wp_var, ↓wp_shr, ↓wp_cst, ↓wp_glob, ↓wp_dnew, ↓wp_sl2, ↓wp_xnew, ↓wp_op, ↓wp_xop, ↓wp_meth, ↓wp_tup, ↓wp_lst, ↓wp_not, ↓wp_and, ↓wp_or, ↓wp_chain, ↓wp_lc, ↓wp_call, ↓wp_pop, ↓wp_evs_nil, ↓wp_evs_cons, ↓wp_rds_nil, ↓wp_rds_var, ↓wp_rds_cst, ↓wp_rds_glob, ↓wp_rds_op, ↓wp_rds_xop, ↓wp_rds_meth, ↓wp_rds_tup, ↓wp_rds_lst, ↓wp_rds_not, ↓wp_rds_and, ↓wp_rds_or, ↓wp_rds_chain, ↓wp_rds_lc, ↓wp_rds_call, ↓wp_rds_pop, ↓wp_rds_shr, ↓wp_rds_dnew, ↓wp_rds_sl2, ↓wp_rds_xnew, ↓wp_evA_nil, ↓wp_evA_ref, ↓wp_evA_own, ↓wp_evA_cst, ↓wp_evA_glob, ↓wp_evA_var, ↓wp_evA_op, ↓wp_evA_xop, ↓wp_evA_meth, ↓wp_evA_tup, ↓wp_evA_lst, ↓wp_evA_lc, ↓wp_evA_call, ↓wp_evA_not, ↓wp_evA_and, ↓wp_evA_or, ↓wp_evA_dnew, ↓wp_evA_sl2, ↓wp_evA_pop, ↓wp_evC_nil, ↓wp_evC_one, ↓wp_evI_rng1, ↓wp_evI_rng2, ↓wp_evI_prs, ↓wp_evI_var, ↓wp_evI_shr, ↓wp_evI_op, ↓wp_evI_xop, ↓wp_evI_lst, ↓wp_evI_tup, ↓wp_evI_call, ↓wp_evI_lc, ↓wp_evI_sl2, ↓wp_exs_nil, ↓wp_exs_cons, ↓kSeq_nx, ↓kSeq_ret, ↓wp_set, ↓wp_setLc, ↓wp_setT, ↓wp_move, ↓wp_aug, ↓wp_ite, ↓wp_for, ↓wp_while, ↓wp_retV, ↓wp_ret_cst, ↓wp_ret_op, ↓wp_ret_xop, ↓wp_ret_meth, ↓wp_ret_tup, ↓wp_ret_lst, ↓wp_ret_not, ↓wp_ret_and, ↓wp_ret_or, ↓wp_ret_chain, ↓wp_ret_lc, ↓wp_ret_call, ↓wp_ret_pop, ↓wp_ret_dnew, ↓wp_ret_sl2, ↓wp_expr, ↓wp_append, ↓wp_extend, ↓wp_setItem, ↓wp_pass, ↓wp_raise0, ↓wp_raise1, ↓wp_try, ↓wp_forStep, ↓wp_lcStep, wp_ok, wp_ex, wp_bad, wpo_some, wpo_none, wpp_some, wpp_none, kTr, kNot, kAnd, kOr, kPl, kDb, kTm, kDs, kDA, kTA, kCons, kEs, kOp, kTup, kLst, kSh, kBack, kBackE, kCall, kChain2, kChainB, kChain1, kChain0, kLc2, kLc, kSeqI, kPrs, kRng1, kRng2b, kRng2, kSl1, kSl2, kSl3, kXn, kPop, kSet, kAsg, kAug, kIte, kFor2, kFor, kRet, kDrop, kApp, kExt, kSetL, kSetD, kSetI, kRaise, eTry, kMove, kRetV, intAtR, isLs, kLe2, kLe, kFn, eFn, kMid_nx, kMid_ret, takeS, dropS, getV, has, toSh_sh, toSh_lst, toSh_dct, rdO, rdOs, lk1, lks, mv1, mvs, putBack, unlks, asgN, asg_name, asg_tupU, asgs_nil, asgs_cons, wipeR, backR, seqI_L, seqI_U, mTy, outL, prim, pAddI, pAddL, pAddT, rg1T, rg2T, smallT, ltT, toNat_nat, pSubI, pFdivI, pModI, pMulI, pPowI, pNeg, pEqI, pNeI, pLtI, pLeI, pGtI, pGeI, pLenLL, pLenU, pLenS, pLenD, pItemL, pItemU, pItemS, pMaxI, pMinI, pListL, pListU, pTupL, pTupU, pIntI, pIntB, pIsiN, pIsiB, pIsiI, pIsiS, pIsiL, pIsiU, pIsiD, tyD, pIs, pIsnot, isNon, pRevL, pRevU, pSlUlo, pSlUhi, pSlLlo, pSlLhi, pSlUlo1, pSlUhi1, pSlLlo1, pSlLhi1, cutP_L, cutP_U, pStrI, ixN_0, ixN_1, ixN_m1, pFld, fldD, pAll, pAny, boolsD, pGet, isImm, List.getElem?_cons_zero, List.getElem?_cons_succ, List.set_cons_zero, List.set_cons_succ, List.length_cons, List.length_nil, List.length_map, List.map_cons, List.map_nil, List.nil_append, List.cons_append, List.append_nil, List.headD_cons, List.tail_cons, List.replicate_succ, List.replicate_zero, Int.cast_ofNat_Int, Int.natCast_one, Int.natCast_zero, Int.reduceEq, Int.reduceLT, Int.reduceLE, Int.reduceNe, Nat.reduceSub, Nat.reduceAdd, Nat.reduceLT, Nat.reduceLeDiff, true_implies, false_implies, forall_const, not_true_eq_false, not_false_eq_true, decide_eq_false_iff_not, eq_self, Bool.not_eq_true, Bool.not_eq_false, Bool.not_eq_true', Bool.not_eq_false', decide_true, decide_false, if_true, if_false, Bool.false_eq_true, Bool.true_eq_false, Bool.not_true, Bool.not_false, Bool.and_true, Bool.true_and, Bool.false_and, Bool.and_false, Bool.or_true, Bool.true_or, Bool.false_or, Bool.or_false, true_and, and_true, false_and, and_false, ite_true, ite_false, reduceIte, Option.map_some, Option.map_none, decide_eq_true_eq, List.mem_cons, List.not_mem_nil, or_false, or_true, true_or, false_or, Nat.zero_lt_succ, Nat.lt_irrefl, atI_0, atI_s, atI_m1, Option.getD_some, Option.getD_none, Option.isSome_some, Option.isSome_none, String.reduceEq]
      refine (hM _ a' b' c').to ?_
      rintro _ _ ⟨rfl, rfl⟩
      simp -implicitDefEqProofs (disch := first | assumption | omega | (simp only [List.length_map, List.length_append, List.length_cons, List.length_nil, List.length_take, List.length_drop, List.length_reverse]; omega)) only [↓wp_var, ↓wp_shr, ↓wp_cst, ↓wp_glob, ↓wp_dnew, ↓wp_sl2, ↓wp_xnew, ↓wp_op, ↓wp_xop, ↓wp_meth, ↓wp_tup, ↓wp_lst, ↓wp_not, ↓wp_and, ↓wp_or, ↓wp_chain, ↓wp_lc, ↓wp_call, ↓wp_pop, ↓wp_evs_nil, ↓wp_evs_cons, ↓wp_rds_nil, ↓wp_rds_var, ↓wp_rds_cst, ↓wp_rds_glob, ↓wp_rds_op, ↓wp_rds_xop, ↓wp_rds_meth, ↓wp_rds_tup, ↓wp_rds_lst, ↓wp_rds_not, ↓wp_rds_and, ↓wp_rds_or, ↓wp_rds_chain, ↓wp_rds_lc, ↓wp_rds_call, ↓wp_rds_pop, ↓wp_rds_shr, ↓wp_rds_dnew, ↓wp_rds_sl2, ↓wp_rds_xnew, ↓wp_evA_nil, ↓wp_evA_ref, ↓wp_evA_own, ↓wp_evA_cst, ↓wp_evA_glob, ↓wp_evA_var, ↓wp_evA_op, ↓wp_evA_xop, ↓wp_evA_meth, ↓wp_evA_tup, ↓wp_evA_lst, ↓wp_evA_lc, ↓wp_evA_call, ↓wp_evA_not, ↓wp_evA_and, ↓wp_evA_or, ↓wp_evA_dnew, ↓wp_evA_sl2, ↓wp_evA_pop, ↓wp_evC_nil, ↓wp_evC_one, ↓wp_evI_rng1, ↓wp_evI_rng2, ↓wp_evI_prs, ↓wp_evI_var, ↓wp_evI_shr, ↓wp_evI_op, ↓wp_evI_xop, ↓wp_evI_lst, ↓wp_evI_tup, ↓wp_evI_call, ↓wp_evI_lc, ↓wp_evI_sl2, ↓wp_exs_nil, ↓wp_exs_cons, ↓kSeq_nx, ↓kSeq_ret, ↓wp_set, ↓wp_setLc, ↓wp_setT, ↓wp_move, ↓wp_aug, ↓wp_ite, ↓wp_for, ↓wp_while, ↓wp_retV, ↓wp_ret_cst, ↓wp_ret_op, ↓wp_ret_xop, ↓wp_ret_meth, ↓wp_ret_tup, ↓wp_ret_lst, ↓wp_ret_not, ↓wp_ret_and, ↓wp_ret_or, ↓wp_ret_chain, ↓wp_ret_lc, ↓wp_ret_call, ↓wp_ret_pop, ↓wp_ret_dnew, ↓wp_ret_sl2, ↓wp_expr, ↓wp_append, ↓wp_extend, ↓wp_setItem, ↓wp_pass, ↓wp_raise0, ↓wp_raise1, ↓wp_try, ↓wp_forStep, ↓wp_lcStep, wp_ok, wp_ex, wp_bad, wpo_some, wpo_none, wpp_some, wpp_none, kTr, kNot, kAnd, kOr, kPl, kDb, kTm, kDs, kDA, kTA, kCons, kEs, kOp, kTup, kLst, kSh, kBack, kBackE, kCall, kChain2, kChainB, kChain1, kChain0, kLc2, kLc, kSeqI, kPrs, kRng1, kRng2b, kRng2, kSl1, kSl2, kSl3, kXn, kPop, kSet, kAsg, kAug, kIte, kFor2, kFor, kRet, kDrop, kApp, kExt, kSetL, kSetD, kSetI, kRaise, eTry, kMove, kRetV, intAtR, isLs, kLe2, kLe, kFn, eFn, kMid_nx, kMid_ret, takeS, dropS, getV, has, toSh_sh, toSh_lst, toSh_dct, rdO, rdOs, lk1, lks, mv1, mvs, putBack, unlks, asgN, asg_name, asg_tupU, asgs_nil, asgs_cons, wipeR, backR, seqI_L, seqI_U, mTy, outL, prim, pAddI, pAddL, pAddT, rg1T, rg2T, smallT, ltT, toNat_nat, pSubI, pFdivI, pModI, pMulI, pPowI, pNeg, pEqI, pNeI, pLtI, pLeI, pGtI, pGeI, pLenLL, pLenU, pLenS, pLenD, pItemL, pItemU, pItemS, pMaxI, pMinI, pListL, pListU, pTupL, pTupU, pIntI, pIntB, pIsiN, pIsiB, pIsiI, pIsiS, pIsiL, pIsiU, pIsiD, tyD, pIs, pIsnot, isNon, pRevL, pRevU, pSlUlo, pSlUhi, pSlLlo, pSlLhi, pSlUlo1, pSlUhi1, pSlLlo1, pSlLhi1, cutP_L, cutP_U, pStrI, ixN_0, ixN_1, ixN_m1, pFld, fldD, pAll, pAny, boolsD, pGet, isImm, List.getElem?_cons_zero, List.getElem?_cons_succ, List.set_cons_zero, List.set_cons_succ, List.length_cons, List.length_nil, List.length_map, List.map_cons, List.map_nil, List.nil_append, List.cons_append, List.append_nil, List.headD_cons, List.tail_cons, List.replicate_succ, List.replicate_zero, Int.cast_ofNat_Int, Int.natCast_one, Int.natCast_zero, Int.reduceEq, Int.reduceLT, Int.reduceLE, Int.reduceNe, Nat.reduceSub, Nat.reduceAdd, Nat.reduceLT, Nat.reduceLeDiff, true_implies, false_implies, forall_const, not_true_eq_false, not_false_eq_true, decide_eq_false_iff_not, eq_self, Bool.not_eq_true, Bool.not_eq_false, Bool.not_eq_true', Bool.not_eq_false', decide_true, decide_false, if_true, if_false, Bool.false_eq_true, Bool.true_eq_false, Bool.not_true, Bool.not_false, Bool.and_true, Bool.true_and, Bool.false_and, Bool.and_false, Bool.or_true, Bool.true_or, Bool.false_or, Bool.or_false, true_and, and_true, false_and, and_false, ite_true, ite_false, reduceIte, Option.map_some, Option.map_none, decide_eq_true_eq, List.mem_cons, List.not_mem_nil, or_false, or_true, true_or, false_or, Nat.zero_lt_succ, Nat.lt_irrefl, atI_0, atI_s, atI_m1, Option.getD_some, Option.getD_none, Option.isSome_some, Option.isSome_none, String.reduceEq]
      refine wp_rng (lo := 0) (fun _ q => ∃ k9 k6, q = [.lst l', .sh (.str t), .sh (.list [a, b, c]), .sh (.list [a', b', c']), .lst (mk a b c), .lst (mk a' b' c'), k6, .non, .non, k9]) ⟨_, _, rfl⟩ ?_ ?_
      · rintro k q hk ⟨k9, k6, rfl⟩
        rw [Int.zero_add]
        obtain ⟨fs, ek⟩ := mk_at a b c hk
        simp -implicitDefEqProofs (disch := first | assumption | omega | (simp only [List.length_map, List.length_append, List.length_cons, List.length_nil, List.length_take, List.length_drop, List.length_reverse]; omega)) only [↓wp_var, ↓wp_shr, ↓wp_cst, ↓wp_glob, ↓wp_dnew, ↓wp_sl2, ↓wp_xnew, ↓wp_op, ↓wp_xop, ↓wp_meth, ↓wp_tup, ↓wp_lst, ↓wp_not, ↓wp_and, ↓wp_or, ↓wp_chain, ↓wp_lc, ↓wp_call, ↓wp_pop, ↓wp_evs_nil, ↓wp_evs_cons, ↓wp_rds_nil, ↓wp_rds_var, ↓wp_rds_cst, ↓wp_rds_glob, ↓wp_rds_op, ↓wp_rds_xop, ↓wp_rds_meth, ↓wp_rds_tup, ↓wp_rds_lst, ↓wp_rds_not, ↓wp_rds_and, ↓wp_rds_or, ↓wp_rds_chain, ↓wp_rds_lc, ↓wp_rds_call, ↓wp_rds_pop, ↓wp_rds_shr, ↓wp_rds_dnew, ↓wp_rds_sl2, ↓wp_rds_xnew, ↓wp_evA_nil, ↓wp_evA_ref, ↓wp_evA_own, ↓wp_evA_cst, ↓wp_evA_glob, ↓wp_evA_var, ↓wp_evA_op, ↓wp_evA_xop, ↓wp_evA_meth, ↓wp_evA_tup, ↓wp_evA_lst, ↓wp_evA_lc, ↓wp_evA_call, ↓wp_evA_not, ↓wp_evA_and, ↓wp_evA_or, ↓wp_evA_dnew, ↓wp_evA_sl2, ↓wp_evA_pop, ↓wp_evC_nil, ↓wp_evC_one, ↓wp_evI_rng1, ↓wp_evI_rng2, ↓wp_evI_prs, ↓wp_evI_var, ↓wp_evI_shr, ↓wp_evI_op, ↓wp_evI_xop, ↓wp_evI_lst, ↓wp_evI_tup, ↓wp_evI_call, ↓wp_evI_lc, ↓wp_evI_sl2, ↓wp_exs_nil, ↓wp_exs_cons, ↓kSeq_nx, ↓kSeq_ret, ↓wp_set, ↓wp_setLc, ↓wp_setT, ↓wp_move, ↓wp_aug, ↓wp_ite, ↓wp_for, ↓wp_while, ↓wp_retV, ↓wp_ret_cst, ↓wp_ret_op, ↓wp_ret_xop, ↓wp_ret_meth, ↓wp_ret_tup, ↓wp_ret_lst, ↓wp_ret_not, ↓wp_ret_and, ↓wp_ret_or, ↓wp_ret_chain, ↓wp_ret_lc, ↓wp_ret_call, ↓wp_ret_pop, ↓wp_ret_dnew, ↓wp_ret_sl2, ↓wp_expr, ↓wp_append, ↓wp_extend, ↓wp_setItem, ↓wp_pass, ↓wp_raise0, ↓wp_raise1, ↓wp_try, ↓wp_forStep, ↓wp_lcStep, wp_ok, wp_ex, wp_bad, wpo_some, wpo_none, wpp_some, wpp_none, kTr, kNot, kAnd, kOr, kPl, kDb, kTm, kDs, kDA, kTA, kCons, kEs, kOp, kTup, kLst, kSh, kBack, kBackE, kCall, kChain2, kChainB, kChain1, kChain0, kLc2, kLc, kSeqI, kPrs, kRng1, kRng2b, kRng2, kSl1, kSl2, kSl3, kXn, kPop, kSet, kAsg, kAug, kIte, kFor2, kFor, kRet, kDrop, kApp, kExt, kSetL, kSetD, kSetI, kRaise, eTry, kMove, kRetV, intAtR, isLs, kLe2, kLe, kFn, eFn, kMid_nx, kMid_ret, takeS, dropS, getV, has, toSh_sh, toSh_lst, toSh_dct, rdO, rdOs, lk1, lks, mv1, mvs, putBack, unlks, asgN, asg_name, asg_tupU, asgs_nil, asgs_cons, wipeR, backR, seqI_L, seqI_U, mTy, outL, prim, pAddI, pAddL, pAddT, rg1T, rg2T, smallT, ltT, toNat_nat, pSubI, pFdivI, pModI, pMulI, pPowI, pNeg, pEqI, pNeI, pLtI, pLeI, pGtI, pGeI, pLenLL, pLenU, pLenS, pLenD, pItemL, pItemU, pItemS, pMaxI, pMinI, pListL, pListU, pTupL, pTupU, pIntI, pIntB, pIsiN, pIsiB, pIsiI, pIsiS, pIsiL, pIsiU, pIsiD, tyD, pIs, pIsnot, isNon, pRevL, pRevU, pSlUlo, pSlUhi, pSlLlo, pSlLhi, pSlUlo1, pSlUhi1, pSlLlo1, pSlLhi1, cutP_L, cutP_U, pStrI, ixN_0, ixN_1, ixN_m1, pFld, fldD, pAll, pAny, boolsD, pGet, isImm, List.getElem?_cons_zero, List.getElem?_cons_succ, List.set_cons_zero, List.set_cons_succ, List.length_cons, List.length_nil, List.length_map, List.map_cons, List.map_nil, List.nil_append, List.cons_append, List.append_nil, List.headD_cons, List.tail_cons, List.replicate_succ, List.replicate_zero, Int.cast_ofNat_Int, Int.natCast_one, Int.natCast_zero, Int.reduceEq, Int.reduceLT, Int.reduceLE, Int.reduceNe, Nat.reduceSub, Nat.reduceAdd, Nat.reduceLT, Nat.reduceLeDiff, true_implies, false_implies, forall_const, not_true_eq_false, not_false_eq_true, decide_eq_false_iff_not, eq_self, Bool.not_eq_true, Bool.not_eq_false, Bool.not_eq_true', Bool.not_eq_false', decide_true, decide_false, if_true, if_false, Bool.false_eq_true, Bool.true_eq_false, Bool.not_true, Bool.not_false, Bool.and_true, Bool.true_and, Bool.false_and, Bool.and_false, Bool.or_true, Bool.true_or, Bool.false_or, Bool.or_false, true_and, and_true, false_and, and_false, ite_true, ite_false, reduceIte, Option.map_some, Option.map_none, decide_eq_true_eq, List.mem_cons, List.not_mem_nil, or_false, or_true, true_or, false_or, Nat.zero_lt_succ, Nat.lt_irrefl, atI_0, atI_s, atI_m1, Option.getD_some, Option.getD_none, Option.isSome_some, Option.isSome_none, String.reduceEq, ek]
        refine (hK (k + 1) fs).to ?_
        rintro _ _ ⟨rfl, rfl⟩
        simp -implicitDefEqProofs (disch := first | assumption | omega | (simp only [List.length_map, List.length_append, List.length_cons, List.length_nil, List.length_take, List.length_drop, List.length_reverse]; omega)) only [↓wp_var, ↓wp_shr, ↓wp_cst, ↓wp_glob, ↓wp_dnew, ↓wp_sl2, ↓wp_xnew, ↓wp_op, ↓wp_xop, ↓wp_meth, ↓wp_tup, ↓wp_lst, ↓wp_not, ↓wp_and, ↓wp_or, ↓wp_chain, ↓wp_lc, ↓wp_call, ↓wp_pop, ↓wp_evs_nil, ↓wp_evs_cons, ↓wp_rds_nil, ↓wp_rds_var, ↓wp_rds_cst, ↓wp_rds_glob, ↓wp_rds_op, ↓wp_rds_xop, ↓wp_rds_meth, ↓wp_rds_tup, ↓wp_rds_lst, ↓wp_rds_not, ↓wp_rds_and, ↓wp_rds_or, ↓wp_rds_chain, ↓wp_rds_lc, ↓wp_rds_call, ↓wp_rds_pop, ↓wp_rds_shr, ↓wp_rds_dnew, ↓wp_rds_sl2, ↓wp_rds_xnew, ↓wp_evA_nil, ↓wp_evA_ref, ↓wp_evA_own, ↓wp_evA_cst, ↓wp_evA_glob, ↓wp_evA_var, ↓wp_evA_op, ↓wp_evA_xop, ↓wp_evA_meth, ↓wp_evA_tup, ↓wp_evA_lst, ↓wp_evA_lc, ↓wp_evA_call, ↓wp_evA_not, ↓wp_evA_and, ↓wp_evA_or, ↓wp_evA_dnew, ↓wp_evA_sl2, ↓wp_evA_pop, ↓wp_evC_nil, ↓wp_evC_one, ↓wp_evI_rng1, ↓wp_evI_rng2, ↓wp_evI_prs, ↓wp_evI_var, ↓wp_evI_shr, ↓wp_evI_op, ↓wp_evI_xop, ↓wp_evI_lst, ↓wp_evI_tup, ↓wp_evI_call, ↓wp_evI_lc, ↓wp_evI_sl2, ↓wp_exs_nil, ↓wp_exs_cons, ↓kSeq_nx, ↓kSeq_ret, ↓wp_set, ↓wp_setLc, ↓wp_setT, ↓wp_move, ↓wp_aug, ↓wp_ite, ↓wp_for, ↓wp_while, ↓wp_retV, ↓wp_ret_cst, ↓wp_ret_op, ↓wp_ret_xop, ↓wp_ret_meth, ↓wp_ret_tup, ↓wp_ret_lst, ↓wp_ret_not, ↓wp_ret_and, ↓wp_ret_or, ↓wp_ret_chain, ↓wp_ret_lc, ↓wp_ret_call, ↓wp_ret_pop, ↓wp_ret_dnew, ↓wp_ret_sl2, ↓wp_expr, ↓wp_append, ↓wp_extend, ↓wp_setItem, ↓wp_pass, ↓wp_raise0, ↓wp_raise1, ↓wp_try, ↓wp_forStep, ↓wp_lcStep, wp_ok, wp_ex, wp_bad, wpo_some, wpo_none, wpp_some, wpp_none, kTr, kNot, kAnd, kOr, kPl, kDb, kTm, kDs, kDA, kTA, kCons, kEs, kOp, kTup, kLst, kSh, kBack, kBackE, kCall, kChain2, kChainB, kChain1, kChain0, kLc2, kLc, kSeqI, kPrs, kRng1, kRng2b, kRng2, kSl1, kSl2, kSl3, kXn, kPop, kSet, kAsg, kAug, kIte, kFor2, kFor, kRet, kDrop, kApp, kExt, kSetL, kSetD, kSetI, kRaise, eTry, kMove, kRetV, intAtR, isLs, kLe2, kLe, kFn, eFn, kMid_nx, kMid_ret, takeS, dropS, getV, has, toSh_sh, toSh_lst, toSh_dct, rdO, rdOs, lk1, lks, mv1, mvs, putBack, unlks, asgN, asg_name, asg_tupU, asgs_nil, asgs_cons, wipeR, backR, seqI_L, seqI_U, mTy, outL, prim, pAddI, pAddL, pAddT, rg1T, rg2T, smallT, ltT, toNat_nat, pSubI, pFdivI, pModI, pMulI, pPowI, pNeg, pEqI, pNeI, pLtI, pLeI, pGtI, pGeI, pLenLL, pLenU, pLenS, pLenD, pItemL, pItemU, pItemS, pMaxI, pMinI, pListL, pListU, pTupL, pTupU, pIntI, pIntB, pIsiN, pIsiB, pIsiI, pIsiS, pIsiL, pIsiU, pIsiD, tyD, pIs, pIsnot, isNon, pRevL, pRevU, pSlUlo, pSlUhi, pSlLlo, pSlLhi, pSlUlo1, pSlUhi1, pSlLlo1, pSlLhi1, cutP_L, cutP_U, pStrI, ixN_0, ixN_1, ixN_m1, pFld, fldD, pAll, pAny, boolsD, pGet, isImm, List.getElem?_cons_zero, List.getElem?_cons_succ, List.set_cons_zero, List.set_cons_succ, List.length_cons, List.length_nil, List.length_map, List.map_cons, List.map_nil, List.nil_append, List.cons_append, List.append_nil, List.headD_cons, List.tail_cons, List.replicate_succ, List.replicate_zero, Int.cast_ofNat_Int, Int.natCast_one, Int.natCast_zero, Int.reduceEq, Int.reduceLT, Int.reduceLE, Int.reduceNe, Nat.reduceSub, Nat.reduceAdd, Nat.reduceLT, Nat.reduceLeDiff, true_implies, false_implies, forall_const, not_true_eq_false, not_false_eq_true, decide_eq_false_iff_not, eq_self, Bool.not_eq_true, Bool.not_eq_false, Bool.not_eq_true', Bool.not_eq_false', decide_true, decide_false, if_true, if_false, Bool.false_eq_true, Bool.true_eq_false, Bool.not_true, Bool.not_false, Bool.and_true, Bool.true_and, Bool.false_and, Bool.and_false, Bool.or_true, Bool.true_or, Bool.false_or, Bool.or_false, true_and, and_true, false_and, and_false, ite_true, ite_false, reduceIte, Option.map_some, Option.map_none, decide_eq_true_eq, List.mem_cons, List.not_mem_nil, or_false, or_true, true_or, false_or, Nat.zero_lt_succ, Nat.lt_irrefl, atI_0, atI_s, atI_m1, Option.getD_some, Option.getD_none, Option.isSome_some, Option.isSome_none, String.reduceEq]
        refine wp_compR (lo := 0) (fun j ys q => ys = ((List.range j).map fun i => decide (i = k)).map PyData.bool ∧ ∃ k9, q = [.lst l', .sh (.str t), .sh (.list [a, b, c]), .sh (.list [a', b', c']), .lst (mk a b c), .lst (mk a' b' c'), .sh (.int (k : Int)), .non, .non, k9]) ⟨rfl, _, rfl⟩ ?_ ?_
        · rintro j ys q hj ⟨rfl, k9, rfl⟩
          rw [Int.zero_add]
          simp -implicitDefEqProofs (disch := first | assumption | omega | (simp only [List.length_map, List.length_append, List.length_cons, List.length_nil, List.length_take, List.length_drop, List.length_reverse]; omega)) only [↓wp_var, ↓wp_shr, ↓wp_cst, ↓wp_glob, ↓wp_dnew, ↓wp_sl2, ↓wp_xnew, ↓wp_op, ↓wp_xop, ↓wp_meth, ↓wp_tup, ↓wp_lst, ↓wp_not, ↓wp_and, ↓wp_or, ↓wp_chain, ↓wp_lc, ↓wp_call, ↓wp_pop, ↓wp_evs_nil, ↓wp_evs_cons, ↓wp_rds_nil, ↓wp_rds_var, ↓wp_rds_cst, ↓wp_rds_glob, ↓wp_rds_op, ↓wp_rds_xop, ↓wp_rds_meth, ↓wp_rds_tup, ↓wp_rds_lst, ↓wp_rds_not, ↓wp_rds_and, ↓wp_rds_or, ↓wp_rds_chain, ↓wp_rds_lc, ↓wp_rds_call, ↓wp_rds_pop, ↓wp_rds_shr, ↓wp_rds_dnew, ↓wp_rds_sl2, ↓wp_rds_xnew, ↓wp_evA_nil, ↓wp_evA_ref, ↓wp_evA_own, ↓wp_evA_cst, ↓wp_evA_glob, ↓wp_evA_var, ↓wp_evA_op, ↓wp_evA_xop, ↓wp_evA_meth, ↓wp_evA_tup, ↓wp_evA_lst, ↓wp_evA_lc, ↓wp_evA_call, ↓wp_evA_not, ↓wp_evA_and, ↓wp_evA_or, ↓wp_evA_dnew, ↓wp_evA_sl2, ↓wp_evA_pop, ↓wp_evC_nil, ↓wp_evC_one, ↓wp_evI_rng1, ↓wp_evI_rng2, ↓wp_evI_prs, ↓wp_evI_var, ↓wp_evI_shr, ↓wp_evI_op, ↓wp_evI_xop, ↓wp_evI_lst, ↓wp_evI_tup, ↓wp_evI_call, ↓wp_evI_lc, ↓wp_evI_sl2, ↓wp_exs_nil, ↓wp_exs_cons, ↓kSeq_nx, ↓kSeq_ret, ↓wp_set, ↓wp_setLc, ↓wp_setT, ↓wp_move, ↓wp_aug, ↓wp_ite, ↓wp_for, ↓wp_while, ↓wp_retV, ↓wp_ret_cst, ↓wp_ret_op, ↓wp_ret_xop, ↓wp_ret_meth, ↓wp_ret_tup, ↓wp_ret_lst, ↓wp_ret_not, ↓wp_ret_and, ↓wp_ret_or, ↓wp_ret_chain, ↓wp_ret_lc, ↓wp_ret_call, ↓wp_ret_pop, ↓wp_ret_dnew, ↓wp_ret_sl2, ↓wp_expr, ↓wp_append, ↓wp_extend, ↓wp_setItem, ↓wp_pass, ↓wp_raise0, ↓wp_raise1, ↓wp_try, ↓wp_forStep, ↓wp_lcStep, wp_ok, wp_ex, wp_bad, wpo_some, wpo_none, wpp_some, wpp_none, kTr, kNot, kAnd, kOr, kPl, kDb, kTm, kDs, kDA, kTA, kCons, kEs, kOp, kTup, kLst, kSh, kBack, kBackE, kCall, kChain2, kChainB, kChain1, kChain0, kLc2, kLc, kSeqI, kPrs, kRng1, kRng2b, kRng2, kSl1, kSl2, kSl3, kXn, kPop, kSet, kAsg, kAug, kIte, kFor2, kFor, kRet, kDrop, kApp, kExt, kSetL, kSetD, kSetI, kRaise, eTry, kMove, kRetV, intAtR, isLs, kLe2, kLe, kFn, eFn, kMid_nx, kMid_ret, takeS, dropS, getV, has, toSh_sh, toSh_lst, toSh_dct, rdO, rdOs, lk1, lks, mv1, mvs, putBack, unlks, asgN, asg_name, asg_tupU, asgs_nil, asgs_cons, wipeR, backR, seqI_L, seqI_U, mTy, outL, prim, pAddI, pAddL, pAddT, rg1T, rg2T, smallT, ltT, toNat_nat, pSubI, pFdivI, pModI, pMulI, pPowI, pNeg, pEqI, pNeI, pLtI, pLeI, pGtI, pGeI, pLenLL, pLenU, pLenS, pLenD, pItemL, pItemU, pItemS, pMaxI, pMinI, pListL, pListU, pTupL, pTupU, pIntI, pIntB, pIsiN, pIsiB, pIsiI, pIsiS, pIsiL, pIsiU, pIsiD, tyD, pIs, pIsnot, isNon, pRevL, pRevU, pSlUlo, pSlUhi, pSlLlo, pSlLhi, pSlUlo1, pSlUhi1, pSlLlo1, pSlLhi1, cutP_L, cutP_U, pStrI, ixN_0, ixN_1, ixN_m1, pFld, fldD, pAll, pAny, boolsD, pGet, isImm, List.getElem?_cons_zero, List.getElem?_cons_succ, List.set_cons_zero, List.set_cons_succ, List.length_cons, List.length_nil, List.length_map, List.map_cons, List.map_nil, List.nil_append, List.cons_append, List.append_nil, List.headD_cons, List.tail_cons, List.replicate_succ, List.replicate_zero, Int.cast_ofNat_Int, Int.natCast_one, Int.natCast_zero, Int.reduceEq, Int.reduceLT, Int.reduceLE, Int.reduceNe, Nat.reduceSub, Nat.reduceAdd, Nat.reduceLT, Nat.reduceLeDiff, true_implies, false_implies, forall_const, not_true_eq_false, not_false_eq_true, decide_eq_false_iff_not, eq_self, Bool.not_eq_true, Bool.not_eq_false, Bool.not_eq_true', Bool.not_eq_false', decide_true, decide_false, if_true, if_false, Bool.false_eq_true, Bool.true_eq_false, Bool.not_true, Bool.not_false, Bool.and_true, Bool.true_and, Bool.false_and, Bool.and_false, Bool.or_true, Bool.true_or, Bool.false_or, Bool.or_false, true_and, and_true, false_and, and_false, ite_true, ite_false, reduceIte, Option.map_some, Option.map_none, decide_eq_true_eq, List.mem_cons, List.not_mem_nil, or_false, or_true, true_or, false_or, Nat.zero_lt_succ, Nat.lt_irrefl, atI_0, atI_s, atI_m1, Option.getD_some, Option.getD_none, Option.isSome_some, Option.isSome_none, String.reduceEq]
          refine ⟨?_, _, rfl⟩
          rw [List.range_succ, List.map_append, List.map_append]
          congr 1
          show [_] = [_]
          congr 2
          by_cases h : j = k
          · subst h; simp
          · have : ¬ (j : Int) = (k : Int) := by omega
            simp [h, this]
        · rintro ys q ⟨rfl, k9, rfl⟩
          simp -implicitDefEqProofs (disch := first | assumption | omega | (simp only [List.length_map, List.length_append, List.length_cons, List.length_nil, List.length_take, List.length_drop, List.length_reverse]; omega)) only [↓wp_var, ↓wp_shr, ↓wp_cst, ↓wp_glob, ↓wp_dnew, ↓wp_sl2, ↓wp_xnew, ↓wp_op, ↓wp_xop, ↓wp_meth, ↓wp_tup, ↓wp_lst, ↓wp_not, ↓wp_and, ↓wp_or, ↓wp_chain, ↓wp_lc, ↓wp_call, ↓wp_pop, ↓wp_evs_nil, ↓wp_evs_cons, ↓wp_rds_nil, ↓wp_rds_var, ↓wp_rds_cst, ↓wp_rds_glob, ↓wp_rds_op, ↓wp_rds_xop, ↓wp_rds_meth, ↓wp_rds_tup, ↓wp_rds_lst, ↓wp_rds_not, ↓wp_rds_and, ↓wp_rds_or, ↓wp_rds_chain, ↓wp_rds_lc, ↓wp_rds_call, ↓wp_rds_pop, ↓wp_rds_shr, ↓wp_rds_dnew, ↓wp_rds_sl2, ↓wp_rds_xnew, ↓wp_evA_nil, ↓wp_evA_ref, ↓wp_evA_own, ↓wp_evA_cst, ↓wp_evA_glob, ↓wp_evA_var, ↓wp_evA_op, ↓wp_evA_xop, ↓wp_evA_meth, ↓wp_evA_tup, ↓wp_evA_lst, ↓wp_evA_lc, ↓wp_evA_call, ↓wp_evA_not, ↓wp_evA_and, ↓wp_evA_or, ↓wp_evA_dnew, ↓wp_evA_sl2, ↓wp_evA_pop, ↓wp_evC_nil, ↓wp_evC_one, ↓wp_evI_rng1, ↓wp_evI_rng2, ↓wp_evI_prs, ↓wp_evI_var, ↓wp_evI_shr, ↓wp_evI_op, ↓wp_evI_xop, ↓wp_evI_lst, ↓wp_evI_tup, ↓wp_evI_call, ↓wp_evI_lc, ↓wp_evI_sl2, ↓wp_exs_nil, ↓wp_exs_cons, ↓kSeq_nx, ↓kSeq_ret, ↓wp_set, ↓wp_setLc, ↓wp_setT, ↓wp_move, ↓wp_aug, ↓wp_ite, ↓wp_for, ↓wp_while, ↓wp_retV, ↓wp_ret_cst, ↓wp_ret_op, ↓wp_ret_xop, ↓wp_ret_meth, ↓wp_ret_tup, ↓wp_ret_lst, ↓wp_ret_not, ↓wp_ret_and, ↓wp_ret_or, ↓wp_ret_chain, ↓wp_ret_lc, ↓wp_ret_call, ↓wp_ret_pop, ↓wp_ret_dnew, ↓wp_ret_sl2, ↓wp_expr, ↓wp_append, ↓wp_extend, ↓wp_setItem, ↓wp_pass, ↓wp_raise0, ↓wp_raise1, ↓wp_try, ↓wp_forStep, ↓wp_lcStep, wp_ok, wp_ex, wp_bad, wpo_some, wpo_none, wpp_some, wpp_none, kTr, kNot, kAnd, kOr, kPl, kDb, kTm, kDs, kDA, kTA, kCons, kEs, kOp, kTup, kLst, kSh, kBack, kBackE, kCall, kChain2, kChainB, kChain1, kChain0, kLc2, kLc, kSeqI, kPrs, kRng1, kRng2b, kRng2, kSl1, kSl2, kSl3, kXn, kPop, kSet, kAsg, kAug, kIte, kFor2, kFor, kRet, kDrop, kApp, kExt, kSetL, kSetD, kSetI, kRaise, eTry, kMove, kRetV, intAtR, isLs, kLe2, kLe, kFn, eFn, kMid_nx, kMid_ret, takeS, dropS, getV, has, toSh_sh, toSh_lst, toSh_dct, rdO, rdOs, lk1, lks, mv1, mvs, putBack, unlks, asgN, asg_name, asg_tupU, asgs_nil, asgs_cons, wipeR, backR, seqI_L, seqI_U, mTy, outL, prim, pAddI, pAddL, pAddT, rg1T, rg2T, smallT, ltT, toNat_nat, pSubI, pFdivI, pModI, pMulI, pPowI, pNeg, pEqI, pNeI, pLtI, pLeI, pGtI, pGeI, pLenLL, pLenU, pLenS, pLenD, pItemL, pItemU, pItemS, pMaxI, pMinI, pListL, pListU, pTupL, pTupU, pIntI, pIntB, pIsiN, pIsiB, pIsiI, pIsiS, pIsiL, pIsiU, pIsiD, tyD, pIs, pIsnot, isNon, pRevL, pRevU, pSlUlo, pSlUhi, pSlLlo, pSlLhi, pSlUlo1, pSlUhi1, pSlLlo1, pSlLhi1, cutP_L, cutP_U, pStrI, ixN_0, ixN_1, ixN_m1, pFld, fldD, pAll, pAny, boolsD, pGet, isImm, List.getElem?_cons_zero, List.getElem?_cons_succ, List.set_cons_zero, List.set_cons_succ, List.length_cons, List.length_nil, List.length_map, List.map_cons, List.map_nil, List.nil_append, List.cons_append, List.append_nil, List.headD_cons, List.tail_cons, List.replicate_succ, List.replicate_zero, Int.cast_ofNat_Int, Int.natCast_one, Int.natCast_zero, Int.reduceEq, Int.reduceLT, Int.reduceLE, Int.reduceNe, Nat.reduceSub, Nat.reduceAdd, Nat.reduceLT, Nat.reduceLeDiff, true_implies, false_implies, forall_const, not_true_eq_false, not_false_eq_true, decide_eq_false_iff_not, eq_self, Bool.not_eq_true, Bool.not_eq_false, Bool.not_eq_true', Bool.not_eq_false', decide_true, decide_false, if_true, if_false, Bool.false_eq_true, Bool.true_eq_false, Bool.not_true, Bool.not_false, Bool.and_true, Bool.true_and, Bool.false_and, Bool.and_false, Bool.or_true, Bool.true_or, Bool.false_or, Bool.or_false, true_and, and_true, false_and, and_false, ite_true, ite_false, reduceIte, Option.map_some, Option.map_none, decide_eq_true_eq, List.mem_cons, List.not_mem_nil, or_false, or_true, true_or, false_or, Nat.zero_lt_succ, Nat.lt_irrefl, atI_0, atI_s, atI_m1, Option.getD_some, Option.getD_none, Option.isSome_some, Option.isSome_none, String.reduceEq, pNeB, iscAll _ (show k + 1 ≤ 16 by omega), ek]
          have he : kindL (k + 1) = List.map (fun i => decide (i = k)) (List.range (Int.toNat 16)) := by
            show List.map _ (List.range 16) = List.map _ (List.range 16)
            refine List.map_congr_left fun i _ => ?_
            by_cases h : i = k
            · subst h; simp
            · have : ¬ i + 1 = k + 1 := by omega
              simp [h, this]
          exact ⟨fun z => absurd he z, fun _ => ⟨_, _, rfl⟩⟩
      · rintro q ⟨k9, k6, rfl⟩
        have a13 : ∀ a b c, L2.atI (mk a b c) 13 = some (excD 14 [(.str (Str.ofString "at"), a)]) := fun _ _ _ => rfl
        have a14 : ∀ a b c, L2.atI (mk a b c) 14 = some (excD 15 [(.str (Str.ofString "at"), b)]) := fun _ _ _ => rfl
        have a15 : ∀ a b c, L2.atI (mk a b c) 15 = some (excD 16 [(.str (Str.ofString "part"), c)]) := fun _ _ _ => rfl
        have eI : pIsc [0, 1, 2, 3, 4, 5, 6, 7, 8, 9, 10, 11, 12, 13, 14, 15, 16] [PyData.dict [(PyData.none, PyData.int 0)]] = some (.sh (.bool true)) := iscAll 0 (by decide) []
        simp -implicitDefEqProofs (disch := first | assumption | omega | (simp only [List.length_map, List.length_append, List.length_cons, List.length_nil, List.length_take, List.length_drop, List.length_reverse]; omega)) only [↓wp_var, ↓wp_shr, ↓wp_cst, ↓wp_glob, ↓wp_dnew, ↓wp_sl2, ↓wp_xnew, ↓wp_op, ↓wp_xop, ↓wp_meth, ↓wp_tup, ↓wp_lst, ↓wp_not, ↓wp_and, ↓wp_or, ↓wp_chain, ↓wp_lc, ↓wp_call, ↓wp_pop, ↓wp_evs_nil, ↓wp_evs_cons, ↓wp_rds_nil, ↓wp_rds_var, ↓wp_rds_cst, ↓wp_rds_glob, ↓wp_rds_op, ↓wp_rds_xop, ↓wp_rds_meth, ↓wp_rds_tup, ↓wp_rds_lst, ↓wp_rds_not, ↓wp_rds_and, ↓wp_rds_or, ↓wp_rds_chain, ↓wp_rds_lc, ↓wp_rds_call, ↓wp_rds_pop, ↓wp_rds_shr, ↓wp_rds_dnew, ↓wp_rds_sl2, ↓wp_rds_xnew, ↓wp_evA_nil, ↓wp_evA_ref, ↓wp_evA_own, ↓wp_evA_cst, ↓wp_evA_glob, ↓wp_evA_var, ↓wp_evA_op, ↓wp_evA_xop, ↓wp_evA_meth, ↓wp_evA_tup, ↓wp_evA_lst, ↓wp_evA_lc, ↓wp_evA_call, ↓wp_evA_not, ↓wp_evA_and, ↓wp_evA_or, ↓wp_evA_dnew, ↓wp_evA_sl2, ↓wp_evA_pop, ↓wp_evC_nil, ↓wp_evC_one, ↓wp_evI_rng1, ↓wp_evI_rng2, ↓wp_evI_prs, ↓wp_evI_var, ↓wp_evI_shr, ↓wp_evI_op, ↓wp_evI_xop, ↓wp_evI_lst, ↓wp_evI_tup, ↓wp_evI_call, ↓wp_evI_lc, ↓wp_evI_sl2, ↓wp_exs_nil, ↓wp_exs_cons, ↓kSeq_nx, ↓kSeq_ret, ↓wp_set, ↓wp_setLc, ↓wp_setT, ↓wp_move, ↓wp_aug, ↓wp_ite, ↓wp_for, ↓wp_while, ↓wp_retV, ↓wp_ret_cst, ↓wp_ret_op, ↓wp_ret_xop, ↓wp_ret_meth, ↓wp_ret_tup, ↓wp_ret_lst, ↓wp_ret_not, ↓wp_ret_and, ↓wp_ret_or, ↓wp_ret_chain, ↓wp_ret_lc, ↓wp_ret_call, ↓wp_ret_pop, ↓wp_ret_dnew, ↓wp_ret_sl2, ↓wp_expr, ↓wp_append, ↓wp_extend, ↓wp_setItem, ↓wp_pass, ↓wp_raise0, ↓wp_raise1, ↓wp_try, ↓wp_forStep, ↓wp_lcStep, wp_ok, wp_ex, wp_bad, wpo_some, wpo_none, wpp_some, wpp_none, kTr, kNot, kAnd, kOr, kPl, kDb, kTm, kDs, kDA, kTA, kCons, kEs, kOp, kTup, kLst, kSh, kBack, kBackE, kCall, kChain2, kChainB, kChain1, kChain0, kLc2, kLc, kSeqI, kPrs, kRng1, kRng2b, kRng2, kSl1, kSl2, kSl3, kXn, kPop, kSet, kAsg, kAug, kIte, kFor2, kFor, kRet, kDrop, kApp, kExt, kSetL, kSetD, kSetI, kRaise, eTry, kMove, kRetV, intAtR, isLs, kLe2, kLe, kFn, eFn, kMid_nx, kMid_ret, takeS, dropS, getV, has, toSh_sh, toSh_lst, toSh_dct, rdO, rdOs, lk1, lks, mv1, mvs, putBack, unlks, asgN, asg_name, asg_tupU, asgs_nil, asgs_cons, wipeR, backR, seqI_L, seqI_U, mTy, outL, prim, pAddI, pAddL, pAddT, rg1T, rg2T, smallT, ltT, toNat_nat, pSubI, pFdivI, pModI, pMulI, pPowI, pNeg, pEqI, pNeI, pLtI, pLeI, pGtI, pGeI, pLenLL, pLenU, pLenS, pLenD, pItemL, pItemU, pItemS, pMaxI, pMinI, pListL, pListU, pTupL, pTupU, pIntI, pIntB, pIsiN, pIsiB, pIsiI, pIsiS, pIsiL, pIsiU, pIsiD, tyD, pIs, pIsnot, isNon, pRevL, pRevU, pSlUlo, pSlUhi, pSlLlo, pSlLhi, pSlUlo1, pSlUhi1, pSlLlo1, pSlLhi1, cutP_L, cutP_U, pStrI, ixN_0, ixN_1, ixN_m1, pFld, fldD, pAll, pAny, boolsD, pGet, isImm, List.getElem?_cons_zero, List.getElem?_cons_succ, List.set_cons_zero, List.set_cons_succ, List.length_cons, List.length_nil, List.length_map, List.map_cons, List.map_nil, List.nil_append, List.cons_append, List.append_nil, List.headD_cons, List.tail_cons, List.replicate_succ, List.replicate_zero, Int.cast_ofNat_Int, Int.natCast_one, Int.natCast_zero, Int.reduceEq, Int.reduceLT, Int.reduceLE, Int.reduceNe, Nat.reduceSub, Nat.reduceAdd, Nat.reduceLT, Nat.reduceLeDiff, true_implies, false_implies, forall_const, not_true_eq_false, not_false_eq_true, decide_eq_false_iff_not, eq_self, Bool.not_eq_true, Bool.not_eq_false, Bool.not_eq_true', Bool.not_eq_false', decide_true, decide_false, if_true, if_false, Bool.false_eq_true, Bool.true_eq_false, Bool.not_true, Bool.not_false, Bool.and_true, Bool.true_and, Bool.false_and, Bool.and_false, Bool.or_true, Bool.true_or, Bool.false_or, Bool.or_false, true_and, and_true, false_and, and_false, ite_true, ite_false, reduceIte, Option.map_some, Option.map_none, decide_eq_true_eq, List.mem_cons, List.not_mem_nil, or_false, or_true, true_or, false_or, Nat.zero_lt_succ, Nat.lt_irrefl, atI_0, atI_s, atI_m1, Option.getD_some, Option.getD_none, Option.isSome_some, Option.isSome_none, String.reduceEq, a13, a14, a15, excD, fldD, (three_same ha hb hc).2, (three_same ha' hb' hc').1, eI]
        exact ⟨_, rfl⟩
theorem law_ok {fu pl ri : Nat} {Phi : Nat → Ro → FR} (hP : PoolS (Phi pl)) (hR : RightS (Phi ri)) (ns : List Int) (hn : ns.length ≤ 63) : WpF (runF fu Phi (f_law pl ri) [.sh (scrD ns)]) (fun v o => v = .sh (.bool true)) noE := by
  refine wp_fn rfl rfl ?_
  unfold b_law
  obtain ⟨cnt, ec, hc1, hc2⟩ := cnt_of ns 20 (by decide)
  simp -implicitDefEqProofs (disch := first | assumption | omega | (simp only [List.length_map, List.length_append, List.length_cons, List.length_nil, List.length_take, List.length_drop, List.length_reverse]; omega)) only [↓wp_var, ↓wp_shr, ↓wp_cst, ↓wp_glob, ↓wp_dnew, ↓wp_sl2, ↓wp_xnew, ↓wp_op, ↓wp_xop, ↓wp_meth, ↓wp_tup, ↓wp_lst, ↓wp_not, ↓wp_and, ↓wp_or, ↓wp_chain, ↓wp_lc, ↓wp_call, ↓wp_pop, ↓wp_evs_nil, ↓wp_evs_cons, ↓wp_rds_nil, ↓wp_rds_var, ↓wp_rds_cst, ↓wp_rds_glob, ↓wp_rds_op, ↓wp_rds_xop, ↓wp_rds_meth, ↓wp_rds_tup, ↓wp_rds_lst, ↓wp_rds_not, ↓wp_rds_and, ↓wp_rds_or, ↓wp_rds_chain, ↓wp_rds_lc, ↓wp_rds_call, ↓wp_rds_pop, ↓wp_rds_shr, ↓wp_rds_dnew, ↓wp_rds_sl2, ↓wp_rds_xnew, ↓wp_evA_nil, ↓wp_evA_ref, ↓wp_evA_own, ↓wp_evA_cst, ↓wp_evA_glob, ↓wp_evA_var, ↓wp_evA_op, ↓wp_evA_xop, ↓wp_evA_meth, ↓wp_evA_tup, ↓wp_evA_lst, ↓wp_evA_lc, ↓wp_evA_call, ↓wp_evA_not, ↓wp_evA_and, ↓wp_evA_or, ↓wp_evA_dnew, ↓wp_evA_sl2, ↓wp_evA_pop, ↓wp_evC_nil, ↓wp_evC_one, ↓wp_evI_rng1, ↓wp_evI_rng2, ↓wp_evI_prs, ↓wp_evI_var, ↓wp_evI_shr, ↓wp_evI_op, ↓wp_evI_xop, ↓wp_evI_lst, ↓wp_evI_tup, ↓wp_evI_call, ↓wp_evI_lc, ↓wp_evI_sl2, ↓wp_exs_nil, ↓wp_exs_cons, ↓kSeq_nx, ↓kSeq_ret, ↓wp_set, ↓wp_setLc, ↓wp_setT, ↓wp_move, ↓wp_aug, ↓wp_ite, ↓wp_for, ↓wp_while, ↓wp_retV, ↓wp_ret_cst, ↓wp_ret_op, ↓wp_ret_xop, ↓wp_ret_meth, ↓wp_ret_tup, ↓wp_ret_lst, ↓wp_ret_not, ↓wp_ret_and, ↓wp_ret_or, ↓wp_ret_chain, ↓wp_ret_lc, ↓wp_ret_call, ↓wp_ret_pop, ↓wp_ret_dnew, ↓wp_ret_sl2, ↓wp_expr, ↓wp_append, ↓wp_extend, ↓wp_setItem, ↓wp_pass, ↓wp_raise0, ↓wp_raise1, ↓wp_try, ↓wp_forStep, ↓wp_lcStep, wp_ok, wp_ex, wp_bad, wpo_some, wpo_none, wpp_some, wpp_none, kTr, kNot, kAnd, kOr, kPl, kDb, kTm, kDs, kDA, kTA, kCons, kEs, kOp, kTup, kLst, kSh, kBack, kBackE, kCall, kChain2, kChainB, kChain1, kChain0, kLc2, kLc, kSeqI, kPrs, kRng1, kRng2b, kRng2, kSl1, kSl2, kSl3, kXn, kPop, kSet, kAsg, kAug, kIte, kFor2, kFor, kRet, kDrop, kApp, kExt, kSetL, kSetD, kSetI, kRaise, eTry, kMove, kRetV, intAtR, isLs, kLe2, kLe, kFn, eFn, kMid_nx, kMid_ret, takeS, dropS, getV, has, toSh_sh, toSh_lst, toSh_dct, rdO, rdOs, lk1, lks, mv1, mvs, putBack, unlks, asgN, asg_name, asg_tupU, asgs_nil, asgs_cons, wipeR, backR, seqI_L, seqI_U, mTy, outL, prim, pAddI, pAddL, pAddT, rg1T, rg2T, smallT, ltT, toNat_nat, pSubI, pFdivI, pModI, pMulI, pPowI, pNeg, pEqI, pNeI, pLtI, pLeI, pGtI, pGeI, pLenLL, pLenU, pLenS, pLenD, pItemL, pItemU, pItemS, pMaxI, pMinI, pListL, pListU, pTupL, pTupU, pIntI, pIntB, pIsiN, pIsiB, pIsiI, pIsiS, pIsiL, pIsiU, pIsiD, tyD, pIs, pIsnot, isNon, pRevL, pRevU, pSlUlo, pSlUhi, pSlLlo, pSlLhi, pSlUlo1, pSlUhi1, pSlLlo1, pSlLhi1, cutP_L, cutP_U, pStrI, ixN_0, ixN_1, ixN_m1, pFld, fldD, pAll, pAny, boolsD, pGet, isImm, List.getElem?_cons_zero, List.getElem?_cons_succ, List.set_cons_zero, List.set_cons_succ, List.length_cons, List.length_nil, List.length_map, List.map_cons, List.map_nil, List.nil_append, List.cons_append, List.append_nil, List.headD_cons, List.tail_cons, List.replicate_succ, List.replicate_zero, Int.cast_ofNat_Int, Int.natCast_one, Int.natCast_zero, Int.reduceEq, Int.reduceLT, Int.reduceLE, Int.reduceNe, Nat.reduceSub, Nat.reduceAdd, Nat.reduceLT, Nat.reduceLeDiff, true_implies, false_implies, forall_const, not_true_eq_false, not_false_eq_true, decide_eq_false_iff_not, eq_self, Bool.not_eq_true, Bool.not_eq_false, Bool.not_eq_true', Bool.not_eq_false', decide_true, decide_false, if_true, if_false, Bool.false_eq_true, Bool.true_eq_false, Bool.not_true, Bool.not_false, Bool.and_true, Bool.true_and, Bool.false_and, Bool.and_false, Bool.or_true, Bool.true_or, Bool.false_or, Bool.or_false, true_and, and_true, false_and, and_false, ite_true, ite_false, reduceIte, Option.map_some, Option.map_none, decide_eq_true_eq, List.mem_cons, List.not_mem_nil, or_false, or_true, true_or, false_or, Nat.zero_lt_succ, Nat.lt_irrefl, atI_0, atI_s, atI_m1, Option.getD_some, Option.getD_none, Option.isSome_some, Option.isSome_none, String.reduceEq]
  rw [show ((20 : Nat) : Int) = 20 from rfl] at ec
  rw [ec]
  simp -implicitDefEqProofs (disch := first | assumption | omega | (simp only [List.length_map, List.length_append, List.length_cons, List.length_nil, List.length_take, List.length_drop, List.length_reverse]; omega)) only [↓wp_var, ↓wp_shr, ↓wp_cst, ↓wp_glob, ↓wp_dnew, ↓wp_sl2, ↓wp_xnew, ↓wp_op, ↓wp_xop, ↓wp_meth, ↓wp_tup, ↓wp_lst, ↓wp_not, ↓wp_and, ↓wp_or, ↓wp_chain, ↓wp_lc, ↓wp_call, ↓wp_pop, ↓wp_evs_nil, ↓wp_evs_cons, ↓wp_rds_nil, ↓wp_rds_var, ↓wp_rds_cst, ↓wp_rds_glob, ↓wp_rds_op, ↓wp_rds_xop, ↓wp_rds_meth, ↓wp_rds_tup, ↓wp_rds_lst, ↓wp_rds_not, ↓wp_rds_and, ↓wp_rds_or, ↓wp_rds_chain, ↓wp_rds_lc, ↓wp_rds_call, ↓wp_rds_pop, ↓wp_rds_shr, ↓wp_rds_dnew, ↓wp_rds_sl2, ↓wp_rds_xnew, ↓wp_evA_nil, ↓wp_evA_ref, ↓wp_evA_own, ↓wp_evA_cst, ↓wp_evA_glob, ↓wp_evA_var, ↓wp_evA_op, ↓wp_evA_xop, ↓wp_evA_meth, ↓wp_evA_tup, ↓wp_evA_lst, ↓wp_evA_lc, ↓wp_evA_call, ↓wp_evA_not, ↓wp_evA_and, ↓wp_evA_or, ↓wp_evA_dnew, ↓wp_evA_sl2, ↓wp_evA_pop, ↓wp_evC_nil, ↓wp_evC_one, ↓wp_evI_rng1, ↓wp_evI_rng2, ↓wp_evI_prs, ↓wp_evI_var, ↓wp_evI_shr, ↓wp_evI_op, ↓wp_evI_xop, ↓wp_evI_lst, ↓wp_evI_tup, ↓wp_evI_call, ↓wp_evI_lc, ↓wp_evI_sl2, ↓wp_exs_nil, ↓wp_exs_cons, ↓kSeq_nx, ↓kSeq_ret, ↓wp_set, ↓wp_setLc, ↓wp_setT, ↓wp_move, ↓wp_aug, ↓wp_ite, ↓wp_for, ↓wp_while, ↓wp_retV, ↓wp_ret_cst, ↓wp_ret_op, ↓wp_ret_xop, ↓wp_ret_meth, ↓wp_ret_tup, ↓wp_ret_lst, ↓wp_ret_not, ↓wp_ret_and, ↓wp_ret_or, ↓wp_ret_chain, ↓wp_ret_lc, ↓wp_ret_call, ↓wp_ret_pop, ↓wp_ret_dnew, ↓wp_ret_sl2, ↓wp_expr, ↓wp_append, ↓wp_extend, ↓wp_setItem, ↓wp_pass, ↓wp_raise0, ↓wp_raise1, ↓wp_try, ↓wp_forStep, ↓wp_lcStep, wp_ok, wp_ex, wp_bad, wpo_some, wpo_none, wpp_some, wpp_none, kTr, kNot, kAnd, kOr, kPl, kDb, kTm, kDs, kDA, kTA, kCons, kEs, kOp, kTup, kLst, kSh, kBack, kBackE, kCall, kChain2, kChainB, kChain1, kChain0, kLc2, kLc, kSeqI, kPrs, kRng1, kRng2b, kRng2, kSl1, kSl2, kSl3, kXn, kPop, kSet, kAsg, kAug, kIte, kFor2, kFor, kRet, kDrop, kApp, kExt, kSetL, kSetD, kSetI, kRaise, eTry, kMove, kRetV, intAtR, isLs, kLe2, kLe, kFn, eFn, kMid_nx, kMid_ret, takeS, dropS, getV, has, toSh_sh, toSh_lst, toSh_dct, rdO, rdOs, lk1, lks, mv1, mvs, putBack, unlks, asgN, asg_name, asg_tupU, asgs_nil, asgs_cons, wipeR, backR, seqI_L, seqI_U, mTy, outL, prim, pAddI, pAddL, pAddT, rg1T, rg2T, smallT, ltT, toNat_nat, pSubI, pFdivI, pModI, pMulI, pPowI, pNeg, pEqI, pNeI, pLtI, pLeI, pGtI, pGeI, pLenLL, pLenU, pLenS, pLenD, pItemL, pItemU, pItemS, pMaxI, pMinI, pListL, pListU, pTupL, pTupU, pIntI, pIntB, pIsiN, pIsiB, pIsiI, pIsiS, pIsiL, pIsiU, pIsiD, tyD, pIs, pIsnot, isNon, pRevL, pRevU, pSlUlo, pSlUhi, pSlLlo, pSlLhi, pSlUlo1, pSlUhi1, pSlLlo1, pSlLhi1, cutP_L, cutP_U, pStrI, ixN_0, ixN_1, ixN_m1, pFld, fldD, pAll, pAny, boolsD, pGet, isImm, List.getElem?_cons_zero, List.getElem?_cons_succ, List.set_cons_zero, List.set_cons_succ, List.length_cons, List.length_nil, List.length_map, List.map_cons, List.map_nil, List.nil_append, List.cons_append, List.append_nil, List.headD_cons, List.tail_cons, List.replicate_succ, List.replicate_zero, Int.cast_ofNat_Int, Int.natCast_one, Int.natCast_zero, Int.reduceEq, Int.reduceLT, Int.reduceLE, Int.reduceNe, Nat.reduceSub, Nat.reduceAdd, Nat.reduceLT, Nat.reduceLeDiff, true_implies, false_implies, forall_const, not_true_eq_false, not_false_eq_true, decide_eq_false_iff_not, eq_self, Bool.not_eq_true, Bool.not_eq_false, Bool.not_eq_true', Bool.not_eq_false', decide_true, decide_false, if_true, if_false, Bool.false_eq_true, Bool.true_eq_false, Bool.not_true, Bool.not_false, Bool.and_true, Bool.true_and, Bool.false_and, Bool.and_false, Bool.or_true, Bool.true_or, Bool.false_or, Bool.or_false, true_and, and_true, false_and, and_false, ite_true, ite_false, reduceIte, Option.map_some, Option.map_none, decide_eq_true_eq, List.mem_cons, List.not_mem_nil, or_false, or_true, true_or, false_or, Nat.zero_lt_succ, Nat.lt_irrefl, atI_0, atI_s, atI_m1, Option.getD_some, Option.getD_none, Option.isSome_some, Option.isSome_none, String.reduceEq]
  refine wp_rng (lo := 0) (fun _ q => ∃ x, q = [.sh (scrD ns), x]) ⟨_, rfl⟩ ?_ ?_
  · rintro k q hk ⟨x, rfl⟩
    rw [Int.zero_add]
    simp -implicitDefEqProofs (disch := first | assumption | omega | (simp only [List.length_map, List.length_append, List.length_cons, List.length_nil, List.length_take, List.length_drop, List.length_reverse]; omega)) only [↓wp_var, ↓wp_shr, ↓wp_cst, ↓wp_glob, ↓wp_dnew, ↓wp_sl2, ↓wp_xnew, ↓wp_op, ↓wp_xop, ↓wp_meth, ↓wp_tup, ↓wp_lst, ↓wp_not, ↓wp_and, ↓wp_or, ↓wp_chain, ↓wp_lc, ↓wp_call, ↓wp_pop, ↓wp_evs_nil, ↓wp_evs_cons, ↓wp_rds_nil, ↓wp_rds_var, ↓wp_rds_cst, ↓wp_rds_glob, ↓wp_rds_op, ↓wp_rds_xop, ↓wp_rds_meth, ↓wp_rds_tup, ↓wp_rds_lst, ↓wp_rds_not, ↓wp_rds_and, ↓wp_rds_or, ↓wp_rds_chain, ↓wp_rds_lc, ↓wp_rds_call, ↓wp_rds_pop, ↓wp_rds_shr, ↓wp_rds_dnew, ↓wp_rds_sl2, ↓wp_rds_xnew, ↓wp_evA_nil, ↓wp_evA_ref, ↓wp_evA_own, ↓wp_evA_cst, ↓wp_evA_glob, ↓wp_evA_var, ↓wp_evA_op, ↓wp_evA_xop, ↓wp_evA_meth, ↓wp_evA_tup, ↓wp_evA_lst, ↓wp_evA_lc, ↓wp_evA_call, ↓wp_evA_not, ↓wp_evA_and, ↓wp_evA_or, ↓wp_evA_dnew, ↓wp_evA_sl2, ↓wp_evA_pop, ↓wp_evC_nil, ↓wp_evC_one, ↓wp_evI_rng1, ↓wp_evI_rng2, ↓wp_evI_prs, ↓wp_evI_var, ↓wp_evI_shr, ↓wp_evI_op, ↓wp_evI_xop, ↓wp_evI_lst, ↓wp_evI_tup, ↓wp_evI_call, ↓wp_evI_lc, ↓wp_evI_sl2, ↓wp_exs_nil, ↓wp_exs_cons, ↓kSeq_nx, ↓kSeq_ret, ↓wp_set, ↓wp_setLc, ↓wp_setT, ↓wp_move, ↓wp_aug, ↓wp_ite, ↓wp_for, ↓wp_while, ↓wp_retV, ↓wp_ret_cst, ↓wp_ret_op, ↓wp_ret_xop, ↓wp_ret_meth, ↓wp_ret_tup, ↓wp_ret_lst, ↓wp_ret_not, ↓wp_ret_and, ↓wp_ret_or, ↓wp_ret_chain, ↓wp_ret_lc, ↓wp_ret_call, ↓wp_ret_pop, ↓wp_ret_dnew, ↓wp_ret_sl2, ↓wp_expr, ↓wp_append, ↓wp_extend, ↓wp_setItem, ↓wp_pass, ↓wp_raise0, ↓wp_raise1, ↓wp_try, ↓wp_forStep, ↓wp_lcStep, wp_ok, wp_ex, wp_bad, wpo_some, wpo_none, wpp_some, wpp_none, kTr, kNot, kAnd, kOr, kPl, kDb, kTm, kDs, kDA, kTA, kCons, kEs, kOp, kTup, kLst, kSh, kBack, kBackE, kCall, kChain2, kChainB, kChain1, kChain0, kLc2, kLc, kSeqI, kPrs, kRng1, kRng2b, kRng2, kSl1, kSl2, kSl3, kXn, kPop, kSet, kAsg, kAug, kIte, kFor2, kFor, kRet, kDrop, kApp, kExt, kSetL, kSetD, kSetI, kRaise, eTry, kMove, kRetV, intAtR, isLs, kLe2, kLe, kFn, eFn, kMid_nx, kMid_ret, takeS, dropS, getV, has, toSh_sh, toSh_lst, toSh_dct, rdO, rdOs, lk1, lks, mv1, mvs, putBack, unlks, asgN, asg_name, asg_tupU, asgs_nil, asgs_cons, wipeR, backR, seqI_L, seqI_U, mTy, outL, prim, pAddI, pAddL, pAddT, rg1T, rg2T, smallT, ltT, toNat_nat, pSubI, pFdivI, pModI, pMulI, pPowI, pNeg, pEqI, pNeI, pLtI, pLeI, pGtI, pGeI, pLenLL, pLenU, pLenS, pLenD, pItemL, pItemU, pItemS, pMaxI, pMinI, pListL, pListU, pTupL, pTupU, pIntI, pIntB, pIsiN, pIsiB, pIsiI, pIsiS, pIsiL, pIsiU, pIsiD, tyD, pIs, pIsnot, isNon, pRevL, pRevU, pSlUlo, pSlUhi, pSlLlo, pSlLhi, pSlUlo1, pSlUhi1, pSlLlo1, pSlLhi1, cutP_L, cutP_U, pStrI, ixN_0, ixN_1, ixN_m1, pFld, fldD, pAll, pAny, boolsD, pGet, isImm, List.getElem?_cons_zero, List.getElem?_cons_succ, List.set_cons_zero, List.set_cons_succ, List.length_cons, List.length_nil, List.length_map, List.map_cons, List.map_nil, List.nil_append, List.cons_append, List.append_nil, List.headD_cons, List.tail_cons, List.replicate_succ, List.replicate_zero, Int.cast_ofNat_Int, Int.natCast_one, Int.natCast_zero, Int.reduceEq, Int.reduceLT, Int.reduceLE, Int.reduceNe, Nat.reduceSub, Nat.reduceAdd, Nat.reduceLT, Nat.reduceLeDiff, true_implies, false_implies, forall_const, not_true_eq_false, not_false_eq_true, decide_eq_false_iff_not, eq_self, Bool.not_eq_true, Bool.not_eq_false, Bool.not_eq_true', Bool.not_eq_false', decide_true, decide_false, if_true, if_false, Bool.false_eq_true, Bool.true_eq_false, Bool.not_true, Bool.not_false, Bool.and_true, Bool.true_and, Bool.false_and, Bool.and_false, Bool.or_true, Bool.true_or, Bool.false_or, Bool.or_false, true_and, and_true, false_and, and_false, ite_true, ite_false, reduceIte, Option.map_some, Option.map_none, decide_eq_true_eq, List.mem_cons, List.not_mem_nil, or_false, or_true, true_or, false_or, Nat.zero_lt_succ, Nat.lt_irrefl, atI_0, atI_s, atI_m1, Option.getD_some, Option.getD_none, Option.isSome_some, Option.isSome_none, String.reduceEq]
    refine (hP ns k (by omega) hn).to ?_
    rintro _ _ ⟨l, rfl, rfl, hl⟩
    simp -implicitDefEqProofs (disch := first | assumption | omega | (simp only [List.length_map, List.length_append, List.length_cons, List.length_nil, List.length_take, List.length_drop, List.length_reverse]; omega)) only [↓wp_var, ↓wp_shr, ↓wp_cst, ↓wp_glob, ↓wp_dnew, ↓wp_sl2, ↓wp_xnew, ↓wp_op, ↓wp_xop, ↓wp_meth, ↓wp_tup, ↓wp_lst, ↓wp_not, ↓wp_and, ↓wp_or, ↓wp_chain, ↓wp_lc, ↓wp_call, ↓wp_pop, ↓wp_evs_nil, ↓wp_evs_cons, ↓wp_rds_nil, ↓wp_rds_var, ↓wp_rds_cst, ↓wp_rds_glob, ↓wp_rds_op, ↓wp_rds_xop, ↓wp_rds_meth, ↓wp_rds_tup, ↓wp_rds_lst, ↓wp_rds_not, ↓wp_rds_and, ↓wp_rds_or, ↓wp_rds_chain, ↓wp_rds_lc, ↓wp_rds_call, ↓wp_rds_pop, ↓wp_rds_shr, ↓wp_rds_dnew, ↓wp_rds_sl2, ↓wp_rds_xnew, ↓wp_evA_nil, ↓wp_evA_ref, ↓wp_evA_own, ↓wp_evA_cst, ↓wp_evA_glob, ↓wp_evA_var, ↓wp_evA_op, ↓wp_evA_xop, ↓wp_evA_meth, ↓wp_evA_tup, ↓wp_evA_lst, ↓wp_evA_lc, ↓wp_evA_call, ↓wp_evA_not, ↓wp_evA_and, ↓wp_evA_or, ↓wp_evA_dnew, ↓wp_evA_sl2, ↓wp_evA_pop, ↓wp_evC_nil, ↓wp_evC_one, ↓wp_evI_rng1, ↓wp_evI_rng2, ↓wp_evI_prs, ↓wp_evI_var, ↓wp_evI_shr, ↓wp_evI_op, ↓wp_evI_xop, ↓wp_evI_lst, ↓wp_evI_tup, ↓wp_evI_call, ↓wp_evI_lc, ↓wp_evI_sl2, ↓wp_exs_nil, ↓wp_exs_cons, ↓kSeq_nx, ↓kSeq_ret, ↓wp_set, ↓wp_setLc, ↓wp_setT, ↓wp_move, ↓wp_aug, ↓wp_ite, ↓wp_for, ↓wp_while, ↓wp_retV, ↓wp_ret_cst, ↓wp_ret_op, ↓wp_ret_xop, ↓wp_ret_meth, ↓wp_ret_tup, ↓wp_ret_lst, ↓wp_ret_not, ↓wp_ret_and, ↓wp_ret_or, ↓wp_ret_chain, ↓wp_ret_lc, ↓wp_ret_call, ↓wp_ret_pop, ↓wp_ret_dnew, ↓wp_ret_sl2, ↓wp_expr, ↓wp_append, ↓wp_extend, ↓wp_setItem, ↓wp_pass, ↓wp_raise0, ↓wp_raise1, ↓wp_try, ↓wp_forStep, ↓wp_lcStep, wp_ok, wp_ex, wp_bad, wpo_some, wpo_none, wpp_some, wpp_none, kTr, kNot, kAnd, kOr, kPl, kDb, kTm, kDs, kDA, kTA, kCons, kEs, kOp, kTup, kLst, kSh, kBack, kBackE, kCall, kChain2, kChainB, kChain1, kChain0, kLc2, kLc, kSeqI, kPrs, kRng1, kRng2b, kRng2, kSl1, kSl2, kSl3, kXn, kPop, kSet, kAsg, kAug, kIte, kFor2, kFor, kRet, kDrop, kApp, kExt, kSetL, kSetD, kSetI, kRaise, eTry, kMove, kRetV, intAtR, isLs, kLe2, kLe, kFn, eFn, kMid_nx, kMid_ret, takeS, dropS, getV, has, toSh_sh, toSh_lst, toSh_dct, rdO, rdOs, lk1, lks, mv1, mvs, putBack, unlks, asgN, asg_name, asg_tupU, asgs_nil, asgs_cons, wipeR, backR, seqI_L, seqI_U, mTy, outL, prim, pAddI, pAddL, pAddT, rg1T, rg2T, smallT, ltT, toNat_nat, pSubI, pFdivI, pModI, pMulI, pPowI, pNeg, pEqI, pNeI, pLtI, pLeI, pGtI, pGeI, pLenLL, pLenU, pLenS, pLenD, pItemL, pItemU, pItemS, pMaxI, pMinI, pListL, pListU, pTupL, pTupU, pIntI, pIntB, pIsiN, pIsiB, pIsiI, pIsiS, pIsiL, pIsiU, pIsiD, tyD, pIs, pIsnot, isNon, pRevL, pRevU, pSlUlo, pSlUhi, pSlLlo, pSlLhi, pSlUlo1, pSlUhi1, pSlLlo1, pSlLhi1, cutP_L, cutP_U, pStrI, ixN_0, ixN_1, ixN_m1, pFld, fldD, pAll, pAny, boolsD, pGet, isImm, List.getElem?_cons_zero, List.getElem?_cons_succ, List.set_cons_zero, List.set_cons_succ, List.length_cons, List.length_nil, List.length_map, List.map_cons, List.map_nil, List.nil_append, List.cons_append, List.append_nil, List.headD_cons, List.tail_cons, List.replicate_succ, List.replicate_zero, Int.cast_ofNat_Int, Int.natCast_one, Int.natCast_zero, Int.reduceEq, Int.reduceLT, Int.reduceLE, Int.reduceNe, Nat.reduceSub, Nat.reduceAdd, Nat.reduceLT, Nat.reduceLeDiff, true_implies, false_implies, forall_const, not_true_eq_false, not_false_eq_true, decide_eq_false_iff_not, eq_self, Bool.not_eq_true, Bool.not_eq_false, Bool.not_eq_true', Bool.not_eq_false', decide_true, decide_false, if_true, if_false, Bool.false_eq_true, Bool.true_eq_false, Bool.not_true, Bool.not_false, Bool.and_true, Bool.true_and, Bool.false_and, Bool.and_false, Bool.or_true, Bool.true_or, Bool.false_or, Bool.or_false, true_and, and_true, false_and, and_false, ite_true, ite_false, reduceIte, Option.map_some, Option.map_none, decide_eq_true_eq, List.mem_cons, List.not_mem_nil, or_false, or_true, true_or, false_or, Nat.zero_lt_succ, Nat.lt_irrefl, atI_0, atI_s, atI_m1, Option.getD_some, Option.getD_none, Option.isSome_some, Option.isSome_none, String.reduceEq]
    refine (hR l hl).to ?_
    rintro _ _ ⟨rfl, x, rfl⟩
    simp -implicitDefEqProofs (disch := first | assumption | omega | (simp only [List.length_map, List.length_append, List.length_cons, List.length_nil, List.length_take, List.length_drop, List.length_reverse]; omega)) only [↓wp_var, ↓wp_shr, ↓wp_cst, ↓wp_glob, ↓wp_dnew, ↓wp_sl2, ↓wp_xnew, ↓wp_op, ↓wp_xop, ↓wp_meth, ↓wp_tup, ↓wp_lst, ↓wp_not, ↓wp_and, ↓wp_or, ↓wp_chain, ↓wp_lc, ↓wp_call, ↓wp_pop, ↓wp_evs_nil, ↓wp_evs_cons, ↓wp_rds_nil, ↓wp_rds_var, ↓wp_rds_cst, ↓wp_rds_glob, ↓wp_rds_op, ↓wp_rds_xop, ↓wp_rds_meth, ↓wp_rds_tup, ↓wp_rds_lst, ↓wp_rds_not, ↓wp_rds_and, ↓wp_rds_or, ↓wp_rds_chain, ↓wp_rds_lc, ↓wp_rds_call, ↓wp_rds_pop, ↓wp_rds_shr, ↓wp_rds_dnew, ↓wp_rds_sl2, ↓wp_rds_xnew, ↓wp_evA_nil, ↓wp_evA_ref, ↓wp_evA_own, ↓wp_evA_cst, ↓wp_evA_glob, ↓wp_evA_var, ↓wp_evA_op, ↓wp_evA_xop, ↓wp_evA_meth, ↓wp_evA_tup, ↓wp_evA_lst, ↓wp_evA_lc, ↓wp_evA_call, ↓wp_evA_not, ↓wp_evA_and, ↓wp_evA_or, ↓wp_evA_dnew, ↓wp_evA_sl2, ↓wp_evA_pop, ↓wp_evC_nil, ↓wp_evC_one, ↓wp_evI_rng1, ↓wp_evI_rng2, ↓wp_evI_prs, ↓wp_evI_var, ↓wp_evI_shr, ↓wp_evI_op, ↓wp_evI_xop, ↓wp_evI_lst, ↓wp_evI_tup, ↓wp_evI_call, ↓wp_evI_lc, ↓wp_evI_sl2, ↓wp_exs_nil, ↓wp_exs_cons, ↓kSeq_nx, ↓kSeq_ret, ↓wp_set, ↓wp_setLc, ↓wp_setT, ↓wp_move, ↓wp_aug, ↓wp_ite, ↓wp_for, ↓wp_while, ↓wp_retV, ↓wp_ret_cst, ↓wp_ret_op, ↓wp_ret_xop, ↓wp_ret_meth, ↓wp_ret_tup, ↓wp_ret_lst, ↓wp_ret_not, ↓wp_ret_and, ↓wp_ret_or, ↓wp_ret_chain, ↓wp_ret_lc, ↓wp_ret_call, ↓wp_ret_pop, ↓wp_ret_dnew, ↓wp_ret_sl2, ↓wp_expr, ↓wp_append, ↓wp_extend, ↓wp_setItem, ↓wp_pass, ↓wp_raise0, ↓wp_raise1, ↓wp_try, ↓wp_forStep, ↓wp_lcStep, wp_ok, wp_ex, wp_bad, wpo_some, wpo_none, wpp_some, wpp_none, kTr, kNot, kAnd, kOr, kPl, kDb, kTm, kDs, kDA, kTA, kCons, kEs, kOp, kTup, kLst, kSh, kBack, kBackE, kCall, kChain2, kChainB, kChain1, kChain0, kLc2, kLc, kSeqI, kPrs, kRng1, kRng2b, kRng2, kSl1, kSl2, kSl3, kXn, kPop, kSet, kAsg, kAug, kIte, kFor2, kFor, kRet, kDrop, kApp, kExt, kSetL, kSetD, kSetI, kRaise, eTry, kMove, kRetV, intAtR, isLs, kLe2, kLe, kFn, eFn, kMid_nx, kMid_ret, takeS, dropS, getV, has, toSh_sh, toSh_lst, toSh_dct, rdO, rdOs, lk1, lks, mv1, mvs, putBack, unlks, asgN, asg_name, asg_tupU, asgs_nil, asgs_cons, wipeR, backR, seqI_L, seqI_U, mTy, outL, prim, pAddI, pAddL, pAddT, rg1T, rg2T, smallT, ltT, toNat_nat, pSubI, pFdivI, pModI, pMulI, pPowI, pNeg, pEqI, pNeI, pLtI, pLeI, pGtI, pGeI, pLenLL, pLenU, pLenS, pLenD, pItemL, pItemU, pItemS, pMaxI, pMinI, pListL, pListU, pTupL, pTupU, pIntI, pIntB, pIsiN, pIsiB, pIsiI, pIsiS, pIsiL, pIsiU, pIsiD, tyD, pIs, pIsnot, isNon, pRevL, pRevU, pSlUlo, pSlUhi, pSlLlo, pSlLhi, pSlUlo1, pSlUhi1, pSlLlo1, pSlLhi1, cutP_L, cutP_U, pStrI, ixN_0, ixN_1, ixN_m1, pFld, fldD, pAll, pAny, boolsD, pGet, isImm, List.getElem?_cons_zero, List.getElem?_cons_succ, List.set_cons_zero, List.set_cons_succ, List.length_cons, List.length_nil, List.length_map, List.map_cons, List.map_nil, List.nil_append, List.cons_append, List.append_nil, List.headD_cons, List.tail_cons, List.replicate_succ, List.replicate_zero, Int.cast_ofNat_Int, Int.natCast_one, Int.natCast_zero, Int.reduceEq, Int.reduceLT, Int.reduceLE, Int.reduceNe, Nat.reduceSub, Nat.reduceAdd, Nat.reduceLT, Nat.reduceLeDiff, true_implies, false_implies, forall_const, not_true_eq_false, not_false_eq_true, decide_eq_false_iff_not, eq_self, Bool.not_eq_true, Bool.not_eq_false, Bool.not_eq_true', Bool.not_eq_false', decide_true, decide_false, if_true, if_false, Bool.false_eq_true, Bool.true_eq_false, Bool.not_true, Bool.not_false, Bool.and_true, Bool.true_and, Bool.false_and, Bool.and_false, Bool.or_true, Bool.true_or, Bool.false_or, Bool.or_false, true_and, and_true, false_and, and_false, ite_true, ite_false, reduceIte, Option.map_some, Option.map_none, decide_eq_true_eq, List.mem_cons, List.not_mem_nil, or_false, or_true, true_or, false_or, Nat.zero_lt_succ, Nat.lt_irrefl, atI_0, atI_s, atI_m1, Option.getD_some, Option.getD_none, Option.isSome_some, Option.isSome_none, String.reduceEq]
    exact ⟨_, rfl⟩
  · rintro q ⟨x, rfl⟩
    simp -implicitDefEqProofs (disch := first | assumption | omega | (simp only [List.length_map, List.length_append, List.length_cons, List.length_nil, List.length_take, List.length_drop, List.length_reverse]; omega)) only [↓wp_var, ↓wp_shr, ↓wp_cst, ↓wp_glob, ↓wp_dnew, ↓wp_sl2, ↓wp_xnew, ↓wp_op, ↓wp_xop, ↓wp_meth, ↓wp_tup, ↓wp_lst, ↓wp_not, ↓wp_and, ↓wp_or, ↓wp_chain, ↓wp_lc, ↓wp_call, ↓wp_pop, ↓wp_evs_nil, ↓wp_evs_cons, ↓wp_rds_nil, ↓wp_rds_var, ↓wp_rds_cst, ↓wp_rds_glob, ↓wp_rds_op, ↓wp_rds_xop, ↓wp_rds_meth, ↓wp_rds_tup, ↓wp_rds_lst, ↓wp_rds_not, ↓wp_rds_and, ↓wp_rds_or, ↓wp_rds_chain, ↓wp_rds_lc, ↓wp_rds_call, ↓wp_rds_pop, ↓wp_rds_shr, ↓wp_rds_dnew, ↓wp_rds_sl2, ↓wp_rds_xnew, ↓wp_evA_nil, ↓wp_evA_ref, ↓wp_evA_own, ↓wp_evA_cst, ↓wp_evA_glob, ↓wp_evA_var, ↓wp_evA_op, ↓wp_evA_xop, ↓wp_evA_meth, ↓wp_evA_tup, ↓wp_evA_lst, ↓wp_evA_lc, ↓wp_evA_call, ↓wp_evA_not, ↓wp_evA_and, ↓wp_evA_or, ↓wp_evA_dnew, ↓wp_evA_sl2, ↓wp_evA_pop, ↓wp_evC_nil, ↓wp_evC_one, ↓wp_evI_rng1, ↓wp_evI_rng2, ↓wp_evI_prs, ↓wp_evI_var, ↓wp_evI_shr, ↓wp_evI_op, ↓wp_evI_xop, ↓wp_evI_lst, ↓wp_evI_tup, ↓wp_evI_call, ↓wp_evI_lc, ↓wp_evI_sl2, ↓wp_exs_nil, ↓wp_exs_cons, ↓kSeq_nx, ↓kSeq_ret, ↓wp_set, ↓wp_setLc, ↓wp_setT, ↓wp_move, ↓wp_aug, ↓wp_ite, ↓wp_for, ↓wp_while, ↓wp_retV, ↓wp_ret_cst, ↓wp_ret_op, ↓wp_ret_xop, ↓wp_ret_meth, ↓wp_ret_tup, ↓wp_ret_lst, ↓wp_ret_not, ↓wp_ret_and, ↓wp_ret_or, ↓wp_ret_chain, ↓wp_ret_lc, ↓wp_ret_call, ↓wp_ret_pop, ↓wp_ret_dnew, ↓wp_ret_sl2, ↓wp_expr, ↓wp_append, ↓wp_extend, ↓wp_setItem, ↓wp_pass, ↓wp_raise0, ↓wp_raise1, ↓wp_try, ↓wp_forStep, ↓wp_lcStep, wp_ok, wp_ex, wp_bad, wpo_some, wpo_none, wpp_some, wpp_none, kTr, kNot, kAnd, kOr, kPl, kDb, kTm, kDs, kDA, kTA, kCons, kEs, kOp, kTup, kLst, kSh, kBack, kBackE, kCall, kChain2, kChainB, kChain1, kChain0, kLc2, kLc, kSeqI, kPrs, kRng1, kRng2b, kRng2, kSl1, kSl2, kSl3, kXn, kPop, kSet, kAsg, kAug, kIte, kFor2, kFor, kRet, kDrop, kApp, kExt, kSetL, kSetD, kSetI, kRaise, eTry, kMove, kRetV, intAtR, isLs, kLe2, kLe, kFn, eFn, kMid_nx, kMid_ret, takeS, dropS, getV, has, toSh_sh, toSh_lst, toSh_dct, rdO, rdOs, lk1, lks, mv1, mvs, putBack, unlks, asgN, asg_name, asg_tupU, asgs_nil, asgs_cons, wipeR, backR, seqI_L, seqI_U, mTy, outL, prim, pAddI, pAddL, pAddT, rg1T, rg2T, smallT, ltT, toNat_nat, pSubI, pFdivI, pModI, pMulI, pPowI, pNeg, pEqI, pNeI, pLtI, pLeI, pGtI, pGeI, pLenLL, pLenU, pLenS, pLenD, pItemL, pItemU, pItemS, pMaxI, pMinI, pListL, pListU, pTupL, pTupU, pIntI, pIntB, pIsiN, pIsiB, pIsiI, pIsiS, pIsiL, pIsiU, pIsiD, tyD, pIs, pIsnot, isNon, pRevL, pRevU, pSlUlo, pSlUhi, pSlLlo, pSlLhi, pSlUlo1, pSlUhi1, pSlLlo1, pSlLhi1, cutP_L, cutP_U, pStrI, ixN_0, ixN_1, ixN_m1, pFld, fldD, pAll, pAny, boolsD, pGet, isImm, List.getElem?_cons_zero, List.getElem?_cons_succ, List.set_cons_zero, List.set_cons_succ, List.length_cons, List.length_nil, List.length_map, List.map_cons, List.map_nil, List.nil_append, List.cons_append, List.append_nil, List.headD_cons, List.tail_cons, List.replicate_succ, List.replicate_zero, Int.cast_ofNat_Int, Int.natCast_one, Int.natCast_zero, Int.reduceEq, Int.reduceLT, Int.reduceLE, Int.reduceNe, Nat.reduceSub, Nat.reduceAdd, Nat.reduceLT, Nat.reduceLeDiff, true_implies, false_implies, forall_const, not_true_eq_false, not_false_eq_true, decide_eq_false_iff_not, eq_self, Bool.not_eq_true, Bool.not_eq_false, Bool.not_eq_true', Bool.not_eq_false', decide_true, decide_false, if_true, if_false, Bool.false_eq_true, Bool.true_eq_false, Bool.not_true, Bool.not_false, Bool.and_true, Bool.true_and, Bool.false_and, Bool.and_false, Bool.or_true, Bool.true_or, Bool.false_or, Bool.or_false, true_and, and_true, false_and, and_false, ite_true, ite_false, reduceIte, Option.map_some, Option.map_none, decide_eq_true_eq, List.mem_cons, List.not_mem_nil, or_false, or_true, true_or, false_or, Nat.zero_lt_succ, Nat.lt_irrefl, atI_0, atI_s, atI_m1, Option.getD_some, Option.getD_none, Option.isSome_some, Option.isSome_none, String.reduceEq]
theorem pool_at (k : Nat) : PoolS (run FU T (k + 1) 0) := by rw [run_fn T_0]; exact pool_ok
theorem take_at (k : Nat) : TakeS (run FU T (k + 1) 1) := by rw [run_fn T_1]; exact take_ok
theorem made_at (k : Nat) : MadeS (run FU T (k + 1) 2) := by rw [run_fn T_2]; exact made_ok
theorem kinds_at (k : Nat) : KindS (run FU T (k + 1) 3) := by rw [run_fn T_3]; exact kinds_ok
theorem right_at (k : Nat) : RightS (run FU T (k + 2) 4) := by rw [run_fn T_4]; exact right_ok (kinds_at k) (made_at k) (take_at k)
theorem hrun : ∀ ns : List Int, ns.length ≤ 63 → ∃ outs, run FU T 40 5 [.sh (scrD ns)] = .ret (.sh (.bool true)) outs := by
  intro ns hn
  rw [run_succ T_5]
  obtain ⟨s, o, e, rfl⟩ := (law_ok (fu := FU) (pool_at 38) (right_at 37) ns hn).ret
  exact ⟨o, e⟩
end K04
end

section
set_option Elab.async false
set_option linter.all false
set_option maxRecDepth 100000
set_option maxHeartbeats 8000000
namespace K04
open PySem L2 Ev

def top (i : Nat) : Stmt := PySem.Challenge.pw_fewstand_k04_refusals_apart.main.body.getD i (.Pass ⟨0, 0, 0, 0⟩)
def tx : Tx := ⟨[(Str.ofString "_law_pool"), (Str.ofString "_law_take"), (Str.ofString "_law_made"), (Str.ofString "_law_kinds"), (Str.ofString "_law_right"), (Str.ofString "law")], [], [((Str.ofString "ValueError"), [0, 1, 2, 3, 4, 5, 6, 7, 8, 9, 10, 11, 12, 13, 14, 15, 16]), ((Str.ofString "LotError"), [0, 1, 2, 3, 4, 5, 6, 7, 8, 9, 10, 11, 12, 13, 14, 15, 16]), ((Str.ofString "NoNumber"), [1]), ((Str.ofString "NoLot"), [2]), ((Str.ofString "NoSize"), [3]), ((Str.ofString "NoNames"), [4]), ((Str.ofString "TooMany"), [5]), ((Str.ofString "NoWeb"), [6]), ((Str.ofString "NoPlan"), [7]), ((Str.ofString "Twice"), [8]), ((Str.ofString "NoMove"), [9]), ((Str.ofString "NoText"), [10]), ((Str.ofString "NoRow"), [11]), ((Str.ofString "NoName"), [12]), ((Str.ofString "Unlike"), [13]), ((Str.ofString "NoFamily"), [14]), ((Str.ofString "NoPairs"), [15]), ((Str.ofString "NoMachine"), [16])], [((Str.ofString "LotError"), 0, ""), ((Str.ofString "NoNumber"), 1, ""), ((Str.ofString "NoLot"), 2, ""), ((Str.ofString "NoSize"), 3, ""), ((Str.ofString "NoNames"), 4, ""), ((Str.ofString "TooMany"), 5, ""), ((Str.ofString "NoWeb"), 6, ""), ((Str.ofString "NoPlan"), 7, ""), ((Str.ofString "Twice"), 8, ""), ((Str.ofString "NoMove"), 9, ""), ((Str.ofString "NoText"), 10, ""), ((Str.ofString "NoRow"), 11, ""), ((Str.ofString "NoName"), 12, ""), ((Str.ofString "Unlike"), 13, ""), ((Str.ofString "NoFamily"), 14, "at"), ((Str.ofString "NoPairs"), 15, "at"), ((Str.ofString "NoMachine"), 16, "part")]⟩
def prg : Prg := ⟨tx⟩
def ad (K : PySem.W.Frag) (x : Str) : Addr := match PySem.W.nsIn K mainGlobals x with | some (some (.ref a)) => a | _ => 0
abbrev ers (K : PySem.W.Frag) : Errs := ⟨fun i => ad K (([(Str.ofString "LotError"), (Str.ofString "NoNumber"), (Str.ofString "NoLot"), (Str.ofString "NoSize"), (Str.ofString "NoNames"), (Str.ofString "TooMany"), (Str.ofString "NoWeb"), (Str.ofString "NoPlan"), (Str.ofString "Twice"), (Str.ofString "NoMove"), (Str.ofString "NoText"), (Str.ofString "NoRow"), (Str.ofString "NoName"), (Str.ofString "Unlike"), (Str.ofString "NoFamily"), (Str.ofString "NoPairs"), (Str.ofString "NoMachine")] : List Str).getD i (Str.ofString "")), [0, 1, 2, 3, 4, 5, 6, 7, 8, 9, 10, 11, 12, 13, 14, 15, 16]⟩
abbrev s0 : Stmt := top 19
abbrev N0 : List Str := [(Str.ofString "_law_script"), (Str.ofString "_law_k"), (Str.ofString "_law_cell"), (Str.ofString "_law_seed")]
abbrev P0 : List Str := [(Str.ofString "_law_script"), (Str.ofString "_law_k")]
theorem sc0 : FnScope N0 P0 (defScope s0) := ⟨rfl, rfl, rfl, by decide +kernel, rfl, by decide +kernel, by decide +kernel⟩
theorem ok0 : okSs tx N0 (defScope s0) (fun _ => true) Lib.f_law_pool.body (defBody s0) = true := by decide +kernel
theorem mu0 : (Lib.f_law_pool.muts.all fun i => decide (i ∉ asgds Lib.f_law_pool.body)) = true := by decide +kernel
abbrev s1 : Stmt := top 20
abbrev N1 : List Str := [(Str.ofString "_law_pool_here"), (Str.ofString "_law_many"), (Str.ofString "_law_found")]
abbrev P1 : List Str := [(Str.ofString "_law_pool_here"), (Str.ofString "_law_many")]
theorem sc1 : FnScope N1 P1 (defScope s1) := ⟨rfl, rfl, rfl, by decide +kernel, rfl, by decide +kernel, by decide +kernel⟩
theorem ok1 : okSs tx N1 (defScope s1) (fun _ => true) Lib.f_law_take.body (defBody s1) = true := by decide +kernel
theorem mu1 : (Lib.f_law_take.muts.all fun i => decide (i ∉ asgds Lib.f_law_take.body)) = true := by decide +kernel
abbrev s2 : Stmt := top 21
abbrev N2 : List Str := [(Str.ofString "_law_text"), (Str.ofString "_law_numbers"), (Str.ofString "_law_found")]
abbrev P2 : List Str := [(Str.ofString "_law_text"), (Str.ofString "_law_numbers")]
theorem sc2 : FnScope N2 P2 (defScope s2) := ⟨rfl, rfl, rfl, by decide +kernel, rfl, by decide +kernel, by decide +kernel⟩
theorem ok2 : okSs tx N2 (defScope s2) (fun _ => true) f_law_made.body (defBody s2) = true := by decide +kernel
theorem mu2 : (f_law_made.muts.all fun i => decide (i ∉ asgds f_law_made.body)) = true := by decide +kernel
abbrev s3 : Stmt := top 22
abbrev N3 : List Str := [(Str.ofString "_law_error"), (Str.ofString "_law_found")]
abbrev P3 : List Str := [(Str.ofString "_law_error")]
theorem sc3 : FnScope N3 P3 (defScope s3) := ⟨rfl, rfl, rfl, by decide +kernel, rfl, by decide +kernel, by decide +kernel⟩
theorem ok3 : okSs tx N3 (defScope s3) (fun _ => true) f_law_kinds.body (defBody s3) = true := by decide +kernel
theorem mu3 : (f_law_kinds.muts.all fun i => decide (i ∉ asgds f_law_kinds.body)) = true := by decide +kernel
abbrev s4 : Stmt := top 23
abbrev N4 : List Str := [(Str.ofString "_law_pool_here"), (Str.ofString "_law_text"), (Str.ofString "_law_numbers"), (Str.ofString "_law_others"), (Str.ofString "_law_made_here"), (Str.ofString "_law_beside"), (Str.ofString "_law_at"), (Str.ofString "_law_most"), (Str.ofString "_law_number"), (Str.ofString "_law_other")]
abbrev P4 : List Str := [(Str.ofString "_law_pool_here")]
theorem sc4 : FnScope N4 P4 (defScope s4) := ⟨rfl, rfl, rfl, by decide +kernel, rfl, by decide +kernel, by decide +kernel⟩
theorem ok4 : okSs tx N4 (defScope s4) (fun _ => true) (f_law_right 3 2 1).body (defBody s4) = true := by decide +kernel
theorem mu4 : ((f_law_right 3 2 1).muts.all fun i => decide (i ∉ asgds (f_law_right 3 2 1).body)) = true := by decide +kernel
abbrev s5 : Stmt := top 24
abbrev N5 : List Str := [(Str.ofString "_law_script"), (Str.ofString "_law_k")]
abbrev P5 : List Str := [(Str.ofString "_law_script")]
theorem sc5 : FnScope N5 P5 (defScope s5) := ⟨rfl, rfl, rfl, by decide +kernel, rfl, by decide +kernel, by decide +kernel⟩
theorem ok5 : okSs tx N5 (defScope s5) (fun _ => true) (f_law 0 4).body (defBody s5) = true := by decide +kernel
theorem mu5 : ((f_law 0 4).muts.all fun i => decide (i ∉ asgds (f_law 0 4).body)) = true := by decide +kernel
abbrev sI14 : Stmt := clsStmt (top 15)
theorem sci14 : FnScope [(Str.ofString "self"), (Str.ofString "at")] [(Str.ofString "self"), (Str.ofString "at")] (defScope sI14) := ⟨rfl, rfl, rfl, by decide +kernel, rfl, by decide +kernel, by decide +kernel⟩
theorem ini14 : iniForm (Str.ofString "at") (Str.ofString "LotError") (defScope sI14) (defBody sI14) = true := by decide +kernel
abbrev sI15 : Stmt := clsStmt (top 16)
theorem sci15 : FnScope [(Str.ofString "self"), (Str.ofString "at")] [(Str.ofString "self"), (Str.ofString "at")] (defScope sI15) := ⟨rfl, rfl, rfl, by decide +kernel, rfl, by decide +kernel, by decide +kernel⟩
theorem ini15 : iniForm (Str.ofString "at") (Str.ofString "LotError") (defScope sI15) (defBody sI15) = true := by decide +kernel
abbrev sI16 : Stmt := clsStmt (top 17)
theorem sci16 : FnScope [(Str.ofString "self"), (Str.ofString "part")] [(Str.ofString "self"), (Str.ofString "part")] (defScope sI16) := ⟨rfl, rfl, rfl, by decide +kernel, rfl, by decide +kernel, by decide +kernel⟩
theorem ini16 : iniForm (Str.ofString "part") (Str.ofString "LotError") (defScope sI16) (defBody sI16) = true := by decide +kernel
theorem all_mk {l : PySem.W.OpenLaw} {w : World} {K : PySem.W.Frag} {h : Heap} {mg : Str → Option Value} {fa f0 f1 f2 f3 f4 f5 e0 e1 e2 e3 e4 e5 e6 e7 e8 e9 e10 e11 e12 e13 e14 e15 e16 : Addr} (X : K.In h) (G : h.Ns mainGlobals mg) (hfa : mg (Str.ofString "law") = some (.ref fa))
    {od0 an0 od1 an1 od2 an2 od3 an3 od4 an4 od5 an5 : Option Addr} {sl0 sl1 sl2 sl3 sl4 sl5 : Array (Option Value)} {oc0 kV0 dc0 pm0 cd0 ct0 oc1 kV1 dc1 pm1 cd1 ct1 oc2 kV2 dc2 pm2 cd2 ct2 oc3 kV3 dc3 pm3 cd3 ct3 oc4 kV4 dc4 pm4 cd4 ct4 oc5 kV5 dc5 pm5 cd5 ct5 : Value}
    {g14 jN14 : Addr} {ioc14 ikV14 idc14 ipm14 icd14 ict14 : Value} {iod14 ian14 : Option Addr} {isl14 : Array (Option Value)} {jn14 jq14 : Str} {jb14 ju14 : List Value} {js14 : List Str} {ja14 : Bool} {jc14 : Option Bool} {jd14 : Option Addr} {j0_14 j1_14 j2_14 j3_14 j5_14 : Option Value}
    {g15 jN15 : Addr} {ioc15 ikV15 idc15 ipm15 icd15 ict15 : Value} {iod15 ian15 : Option Addr} {isl15 : Array (Option Value)} {jn15 jq15 : Str} {jb15 ju15 : List Value} {js15 : List Str} {ja15 : Bool} {jc15 : Option Bool} {jd15 : Option Addr} {j0_15 j1_15 j2_15 j3_15 j5_15 : Option Value}
    {g16 jN16 : Addr} {ioc16 ikV16 idc16 ipm16 icd16 ict16 : Value} {iod16 ian16 : Option Addr} {isl16 : Array (Option Value)} {jn16 jq16 : Str} {jb16 ju16 : List Value} {js16 : List Str} {ja16 : Bool} {jc16 : Option Bool} {jd16 : Option Addr} {j0_16 j1_16 j2_16 j3_16 j5_16 : Option Value}
    (a0 : PySem.W.nsIn K mainGlobals (Str.ofString "_law_pool") = some (some (.ref f0))) (l0 : K.lookup f0 = some ⟨oc0, od0, .func (PySem.W.fnOf (Str.ofString "_law_pool") (Str.ofString "_law_pool") (defArgs s0) (defBody s0) (defScope s0) .none kV0 dc0 pm0 an0 cd0 ct0), sl0⟩) (c0 : PySem.W.codeIn K cd0 (Str.ofString "_law_pool") = true) (k0 : PySem.W.keepIn K (.ref f0) = true)
    (a1 : PySem.W.nsIn K mainGlobals (Str.ofString "_law_take") = some (some (.ref f1))) (l1 : K.lookup f1 = some ⟨oc1, od1, .func (PySem.W.fnOf (Str.ofString "_law_take") (Str.ofString "_law_take") (defArgs s1) (defBody s1) (defScope s1) .none kV1 dc1 pm1 an1 cd1 ct1), sl1⟩) (c1 : PySem.W.codeIn K cd1 (Str.ofString "_law_take") = true) (k1 : PySem.W.keepIn K (.ref f1) = true)
    (a2 : PySem.W.nsIn K mainGlobals (Str.ofString "_law_made") = some (some (.ref f2))) (l2 : K.lookup f2 = some ⟨oc2, od2, .func (PySem.W.fnOf (Str.ofString "_law_made") (Str.ofString "_law_made") (defArgs s2) (defBody s2) (defScope s2) .none kV2 dc2 pm2 an2 cd2 ct2), sl2⟩) (c2 : PySem.W.codeIn K cd2 (Str.ofString "_law_made") = true) (k2 : PySem.W.keepIn K (.ref f2) = true)
    (a3 : PySem.W.nsIn K mainGlobals (Str.ofString "_law_kinds") = some (some (.ref f3))) (l3 : K.lookup f3 = some ⟨oc3, od3, .func (PySem.W.fnOf (Str.ofString "_law_kinds") (Str.ofString "_law_kinds") (defArgs s3) (defBody s3) (defScope s3) .none kV3 dc3 pm3 an3 cd3 ct3), sl3⟩) (c3 : PySem.W.codeIn K cd3 (Str.ofString "_law_kinds") = true) (k3 : PySem.W.keepIn K (.ref f3) = true)
    (a4 : PySem.W.nsIn K mainGlobals (Str.ofString "_law_right") = some (some (.ref f4))) (l4 : K.lookup f4 = some ⟨oc4, od4, .func (PySem.W.fnOf (Str.ofString "_law_right") (Str.ofString "_law_right") (defArgs s4) (defBody s4) (defScope s4) .none kV4 dc4 pm4 an4 cd4 ct4), sl4⟩) (c4 : PySem.W.codeIn K cd4 (Str.ofString "_law_right") = true) (k4 : PySem.W.keepIn K (.ref f4) = true)
    (a5 : PySem.W.nsIn K mainGlobals (Str.ofString "law") = some (some (.ref f5))) (l5 : K.lookup f5 = some ⟨oc5, od5, .func (PySem.W.fnOf (Str.ofString "law") (Str.ofString "law") (defArgs s5) (defBody s5) (defScope s5) .none kV5 dc5 pm5 an5 cd5 ct5), sl5⟩) (c5 : PySem.W.codeIn K cd5 (Str.ofString "law") = true) (k5 : PySem.W.keepIn K (.ref f5) = true)
    (ea0 : PySem.W.nsIn K mainGlobals (Str.ofString "LotError") = some (some (.ref e0)))
    (ea1 : PySem.W.nsIn K mainGlobals (Str.ofString "NoNumber") = some (some (.ref e1)))
    (ea2 : PySem.W.nsIn K mainGlobals (Str.ofString "NoLot") = some (some (.ref e2)))
    (ea3 : PySem.W.nsIn K mainGlobals (Str.ofString "NoSize") = some (some (.ref e3)))
    (ea4 : PySem.W.nsIn K mainGlobals (Str.ofString "NoNames") = some (some (.ref e4)))
    (ea5 : PySem.W.nsIn K mainGlobals (Str.ofString "TooMany") = some (some (.ref e5)))
    (ea6 : PySem.W.nsIn K mainGlobals (Str.ofString "NoWeb") = some (some (.ref e6)))
    (ea7 : PySem.W.nsIn K mainGlobals (Str.ofString "NoPlan") = some (some (.ref e7)))
    (ea8 : PySem.W.nsIn K mainGlobals (Str.ofString "Twice") = some (some (.ref e8)))
    (ea9 : PySem.W.nsIn K mainGlobals (Str.ofString "NoMove") = some (some (.ref e9)))
    (ea10 : PySem.W.nsIn K mainGlobals (Str.ofString "NoText") = some (some (.ref e10)))
    (ea11 : PySem.W.nsIn K mainGlobals (Str.ofString "NoRow") = some (some (.ref e11)))
    (ea12 : PySem.W.nsIn K mainGlobals (Str.ofString "NoName") = some (some (.ref e12)))
    (ea13 : PySem.W.nsIn K mainGlobals (Str.ofString "Unlike") = some (some (.ref e13)))
    (ea14 : PySem.W.nsIn K mainGlobals (Str.ofString "NoFamily") = some (some (.ref e14)))
    (ea15 : PySem.W.nsIn K mainGlobals (Str.ofString "NoPairs") = some (some (.ref e15)))
    (ea16 : PySem.W.nsIn K mainGlobals (Str.ofString "NoMachine") = some (some (.ref e16)))
    (xg0 : PySem.W.findIn K (.ref e0) (Str.ofString "__getattribute__") = some (some (.builtin "BaseException.__getattribute__")))
    (xk0 : PySem.W.findIn K (.ref e0) (Str.ofString "__getattr__") = some none)
    (xs0 : PySem.W.subIn K (.ref e0) (.type "BaseException") = some true)
    (xd0 : PySem.W.hasDictIn K e0 = true)
    (xa0 : PySem.W.findIn K (.ref e0) (Str.ofString "__class__") = some (some (.builtin "object.__class__")))
    (xm0 : PySem.W.mroIn K e0 (.type "object") = some true)
    (fa0 : PySem.W.findIn K (.ref e0) (Str.ofString "at") = some none)
    (fp0 : PySem.W.findIn K (.ref e0) (Str.ofString "part") = some none)
    (rk0 : PySem.W.keepIn K (.ref e0) = true)
    (rx0 : PySem.W.excIn K e0 [.type "ValueError", .type "Exception", .type "BaseException", .type "object"] "ValueError.__new__" = true)
    (rt0 : PySem.W.typeIn K (.ref e0) = some (.type "type"))
    (kt0_0 : PySem.W.kitOne K (.ref e0) (.type "ValueError") = some true)
    (xo0_0 : PySem.W.exmOne K (.ref e0) (.type "ValueError") = some true)
    (kt0_1 : PySem.W.kitOne K (.ref e0) (.ref e0) = some true)
    (xo0_1 : PySem.W.exmOne K (.ref e0) (.ref e0) = some true)
    (kt0_2 : PySem.W.kitOne K (.ref e0) (.ref e1) = some false)
    (xo0_2 : PySem.W.exmOne K (.ref e0) (.ref e1) = some false)
    (kt0_3 : PySem.W.kitOne K (.ref e0) (.ref e2) = some false)
    (xo0_3 : PySem.W.exmOne K (.ref e0) (.ref e2) = some false)
    (kt0_4 : PySem.W.kitOne K (.ref e0) (.ref e3) = some false)
    (xo0_4 : PySem.W.exmOne K (.ref e0) (.ref e3) = some false)
    (kt0_5 : PySem.W.kitOne K (.ref e0) (.ref e4) = some false)
    (xo0_5 : PySem.W.exmOne K (.ref e0) (.ref e4) = some false)
    (kt0_6 : PySem.W.kitOne K (.ref e0) (.ref e5) = some false)
    (xo0_6 : PySem.W.exmOne K (.ref e0) (.ref e5) = some false)
    (kt0_7 : PySem.W.kitOne K (.ref e0) (.ref e6) = some false)
    (xo0_7 : PySem.W.exmOne K (.ref e0) (.ref e6) = some false)
    (kt0_8 : PySem.W.kitOne K (.ref e0) (.ref e7) = some false)
    (xo0_8 : PySem.W.exmOne K (.ref e0) (.ref e7) = some false)
    (kt0_9 : PySem.W.kitOne K (.ref e0) (.ref e8) = some false)
    (xo0_9 : PySem.W.exmOne K (.ref e0) (.ref e8) = some false)
    (kt0_10 : PySem.W.kitOne K (.ref e0) (.ref e9) = some false)
    (xo0_10 : PySem.W.exmOne K (.ref e0) (.ref e9) = some false)
    (kt0_11 : PySem.W.kitOne K (.ref e0) (.ref e10) = some false)
    (xo0_11 : PySem.W.exmOne K (.ref e0) (.ref e10) = some false)
    (kt0_12 : PySem.W.kitOne K (.ref e0) (.ref e11) = some false)
    (xo0_12 : PySem.W.exmOne K (.ref e0) (.ref e11) = some false)
    (kt0_13 : PySem.W.kitOne K (.ref e0) (.ref e12) = some false)
    (xo0_13 : PySem.W.exmOne K (.ref e0) (.ref e12) = some false)
    (kt0_14 : PySem.W.kitOne K (.ref e0) (.ref e13) = some false)
    (xo0_14 : PySem.W.exmOne K (.ref e0) (.ref e13) = some false)
    (kt0_15 : PySem.W.kitOne K (.ref e0) (.ref e14) = some false)
    (xo0_15 : PySem.W.exmOne K (.ref e0) (.ref e14) = some false)
    (kt0_16 : PySem.W.kitOne K (.ref e0) (.ref e15) = some false)
    (xo0_16 : PySem.W.exmOne K (.ref e0) (.ref e15) = some false)
    (kt0_17 : PySem.W.kitOne K (.ref e0) (.ref e16) = some false)
    (xo0_17 : PySem.W.exmOne K (.ref e0) (.ref e16) = some false)
    (xg1 : PySem.W.findIn K (.ref e1) (Str.ofString "__getattribute__") = some (some (.builtin "BaseException.__getattribute__")))
    (xk1 : PySem.W.findIn K (.ref e1) (Str.ofString "__getattr__") = some none)
    (xs1 : PySem.W.subIn K (.ref e1) (.type "BaseException") = some true)
    (xd1 : PySem.W.hasDictIn K e1 = true)
    (xa1 : PySem.W.findIn K (.ref e1) (Str.ofString "__class__") = some (some (.builtin "object.__class__")))
    (xm1 : PySem.W.mroIn K e1 (.type "object") = some true)
    (fa1 : PySem.W.findIn K (.ref e1) (Str.ofString "at") = some none)
    (fp1 : PySem.W.findIn K (.ref e1) (Str.ofString "part") = some none)
    (rk1 : PySem.W.keepIn K (.ref e1) = true)
    (rx1 : PySem.W.excIn K e1 [.type "ValueError", .type "Exception", .type "BaseException", .type "object"] "ValueError.__new__" = true)
    (rt1 : PySem.W.typeIn K (.ref e1) = some (.type "type"))
    (kt1_0 : PySem.W.kitOne K (.ref e1) (.type "ValueError") = some true)
    (xo1_0 : PySem.W.exmOne K (.ref e1) (.type "ValueError") = some true)
    (kt1_1 : PySem.W.kitOne K (.ref e1) (.ref e0) = some true)
    (xo1_1 : PySem.W.exmOne K (.ref e1) (.ref e0) = some true)
    (kt1_2 : PySem.W.kitOne K (.ref e1) (.ref e1) = some true)
    (xo1_2 : PySem.W.exmOne K (.ref e1) (.ref e1) = some true)
    (kt1_3 : PySem.W.kitOne K (.ref e1) (.ref e2) = some false)
    (xo1_3 : PySem.W.exmOne K (.ref e1) (.ref e2) = some false)
    (kt1_4 : PySem.W.kitOne K (.ref e1) (.ref e3) = some false)
    (xo1_4 : PySem.W.exmOne K (.ref e1) (.ref e3) = some false)
    (kt1_5 : PySem.W.kitOne K (.ref e1) (.ref e4) = some false)
    (xo1_5 : PySem.W.exmOne K (.ref e1) (.ref e4) = some false)
    (kt1_6 : PySem.W.kitOne K (.ref e1) (.ref e5) = some false)
    (xo1_6 : PySem.W.exmOne K (.ref e1) (.ref e5) = some false)
    (kt1_7 : PySem.W.kitOne K (.ref e1) (.ref e6) = some false)
    (xo1_7 : PySem.W.exmOne K (.ref e1) (.ref e6) = some false)
    (kt1_8 : PySem.W.kitOne K (.ref e1) (.ref e7) = some false)
    (xo1_8 : PySem.W.exmOne K (.ref e1) (.ref e7) = some false)
    (kt1_9 : PySem.W.kitOne K (.ref e1) (.ref e8) = some false)
    (xo1_9 : PySem.W.exmOne K (.ref e1) (.ref e8) = some false)
    (kt1_10 : PySem.W.kitOne K (.ref e1) (.ref e9) = some false)
    (xo1_10 : PySem.W.exmOne K (.ref e1) (.ref e9) = some false)
    (kt1_11 : PySem.W.kitOne K (.ref e1) (.ref e10) = some false)
    (xo1_11 : PySem.W.exmOne K (.ref e1) (.ref e10) = some false)
    (kt1_12 : PySem.W.kitOne K (.ref e1) (.ref e11) = some false)
    (xo1_12 : PySem.W.exmOne K (.ref e1) (.ref e11) = some false)
    (kt1_13 : PySem.W.kitOne K (.ref e1) (.ref e12) = some false)
    (xo1_13 : PySem.W.exmOne K (.ref e1) (.ref e12) = some false)
    (kt1_14 : PySem.W.kitOne K (.ref e1) (.ref e13) = some false)
    (xo1_14 : PySem.W.exmOne K (.ref e1) (.ref e13) = some false)
    (kt1_15 : PySem.W.kitOne K (.ref e1) (.ref e14) = some false)
    (xo1_15 : PySem.W.exmOne K (.ref e1) (.ref e14) = some false)
    (kt1_16 : PySem.W.kitOne K (.ref e1) (.ref e15) = some false)
    (xo1_16 : PySem.W.exmOne K (.ref e1) (.ref e15) = some false)
    (kt1_17 : PySem.W.kitOne K (.ref e1) (.ref e16) = some false)
    (xo1_17 : PySem.W.exmOne K (.ref e1) (.ref e16) = some false)
    (xg2 : PySem.W.findIn K (.ref e2) (Str.ofString "__getattribute__") = some (some (.builtin "BaseException.__getattribute__")))
    (xk2 : PySem.W.findIn K (.ref e2) (Str.ofString "__getattr__") = some none)
    (xs2 : PySem.W.subIn K (.ref e2) (.type "BaseException") = some true)
    (xd2 : PySem.W.hasDictIn K e2 = true)
    (xa2 : PySem.W.findIn K (.ref e2) (Str.ofString "__class__") = some (some (.builtin "object.__class__")))
    (xm2 : PySem.W.mroIn K e2 (.type "object") = some true)
    (fa2 : PySem.W.findIn K (.ref e2) (Str.ofString "at") = some none)
    (fp2 : PySem.W.findIn K (.ref e2) (Str.ofString "part") = some none)
    (rk2 : PySem.W.keepIn K (.ref e2) = true)
    (rx2 : PySem.W.excIn K e2 [.type "ValueError", .type "Exception", .type "BaseException", .type "object"] "ValueError.__new__" = true)
    (rt2 : PySem.W.typeIn K (.ref e2) = some (.type "type"))
    (kt2_0 : PySem.W.kitOne K (.ref e2) (.type "ValueError") = some true)
    (xo2_0 : PySem.W.exmOne K (.ref e2) (.type "ValueError") = some true)
    (kt2_1 : PySem.W.kitOne K (.ref e2) (.ref e0) = some true)
    (xo2_1 : PySem.W.exmOne K (.ref e2) (.ref e0) = some true)
    (kt2_2 : PySem.W.kitOne K (.ref e2) (.ref e1) = some false)
    (xo2_2 : PySem.W.exmOne K (.ref e2) (.ref e1) = some false)
    (kt2_3 : PySem.W.kitOne K (.ref e2) (.ref e2) = some true)
    (xo2_3 : PySem.W.exmOne K (.ref e2) (.ref e2) = some true)
    (kt2_4 : PySem.W.kitOne K (.ref e2) (.ref e3) = some false)
    (xo2_4 : PySem.W.exmOne K (.ref e2) (.ref e3) = some false)
    (kt2_5 : PySem.W.kitOne K (.ref e2) (.ref e4) = some false)
    (xo2_5 : PySem.W.exmOne K (.ref e2) (.ref e4) = some false)
    (kt2_6 : PySem.W.kitOne K (.ref e2) (.ref e5) = some false)
    (xo2_6 : PySem.W.exmOne K (.ref e2) (.ref e5) = some false)
    (kt2_7 : PySem.W.kitOne K (.ref e2) (.ref e6) = some false)
    (xo2_7 : PySem.W.exmOne K (.ref e2) (.ref e6) = some false)
    (kt2_8 : PySem.W.kitOne K (.ref e2) (.ref e7) = some false)
    (xo2_8 : PySem.W.exmOne K (.ref e2) (.ref e7) = some false)
    (kt2_9 : PySem.W.kitOne K (.ref e2) (.ref e8) = some false)
    (xo2_9 : PySem.W.exmOne K (.ref e2) (.ref e8) = some false)
    (kt2_10 : PySem.W.kitOne K (.ref e2) (.ref e9) = some false)
    (xo2_10 : PySem.W.exmOne K (.ref e2) (.ref e9) = some false)
    (kt2_11 : PySem.W.kitOne K (.ref e2) (.ref e10) = some false)
    (xo2_11 : PySem.W.exmOne K (.ref e2) (.ref e10) = some false)
    (kt2_12 : PySem.W.kitOne K (.ref e2) (.ref e11) = some false)
    (xo2_12 : PySem.W.exmOne K (.ref e2) (.ref e11) = some false)
    (kt2_13 : PySem.W.kitOne K (.ref e2) (.ref e12) = some false)
    (xo2_13 : PySem.W.exmOne K (.ref e2) (.ref e12) = some false)
    (kt2_14 : PySem.W.kitOne K (.ref e2) (.ref e13) = some false)
    (xo2_14 : PySem.W.exmOne K (.ref e2) (.ref e13) = some false)
    (kt2_15 : PySem.W.kitOne K (.ref e2) (.ref e14) = some false)
    (xo2_15 : PySem.W.exmOne K (.ref e2) (.ref e14) = some false)
    (kt2_16 : PySem.W.kitOne K (.ref e2) (.ref e15) = some false)
    (xo2_16 : PySem.W.exmOne K (.ref e2) (.ref e15) = some false)
    (kt2_17 : PySem.W.kitOne K (.ref e2) (.ref e16) = some false)
    (xo2_17 : PySem.W.exmOne K (.ref e2) (.ref e16) = some false)
    (xg3 : PySem.W.findIn K (.ref e3) (Str.ofString "__getattribute__") = some (some (.builtin "BaseException.__getattribute__")))
    (xk3 : PySem.W.findIn K (.ref e3) (Str.ofString "__getattr__") = some none)
    (xs3 : PySem.W.subIn K (.ref e3) (.type "BaseException") = some true)
    (xd3 : PySem.W.hasDictIn K e3 = true)
    (xa3 : PySem.W.findIn K (.ref e3) (Str.ofString "__class__") = some (some (.builtin "object.__class__")))
    (xm3 : PySem.W.mroIn K e3 (.type "object") = some true)
    (fa3 : PySem.W.findIn K (.ref e3) (Str.ofString "at") = some none)
    (fp3 : PySem.W.findIn K (.ref e3) (Str.ofString "part") = some none)
    (rk3 : PySem.W.keepIn K (.ref e3) = true)
    (rx3 : PySem.W.excIn K e3 [.type "ValueError", .type "Exception", .type "BaseException", .type "object"] "ValueError.__new__" = true)
    (rt3 : PySem.W.typeIn K (.ref e3) = some (.type "type"))
    (kt3_0 : PySem.W.kitOne K (.ref e3) (.type "ValueError") = some true)
    (xo3_0 : PySem.W.exmOne K (.ref e3) (.type "ValueError") = some true)
    (kt3_1 : PySem.W.kitOne K (.ref e3) (.ref e0) = some true)
    (xo3_1 : PySem.W.exmOne K (.ref e3) (.ref e0) = some true)
    (kt3_2 : PySem.W.kitOne K (.ref e3) (.ref e1) = some false)
    (xo3_2 : PySem.W.exmOne K (.ref e3) (.ref e1) = some false)
    (kt3_3 : PySem.W.kitOne K (.ref e3) (.ref e2) = some false)
    (xo3_3 : PySem.W.exmOne K (.ref e3) (.ref e2) = some false)
    (kt3_4 : PySem.W.kitOne K (.ref e3) (.ref e3) = some true)
    (xo3_4 : PySem.W.exmOne K (.ref e3) (.ref e3) = some true)
    (kt3_5 : PySem.W.kitOne K (.ref e3) (.ref e4) = some false)
    (xo3_5 : PySem.W.exmOne K (.ref e3) (.ref e4) = some false)
    (kt3_6 : PySem.W.kitOne K (.ref e3) (.ref e5) = some false)
    (xo3_6 : PySem.W.exmOne K (.ref e3) (.ref e5) = some false)
    (kt3_7 : PySem.W.kitOne K (.ref e3) (.ref e6) = some false)
    (xo3_7 : PySem.W.exmOne K (.ref e3) (.ref e6) = some false)
    (kt3_8 : PySem.W.kitOne K (.ref e3) (.ref e7) = some false)
    (xo3_8 : PySem.W.exmOne K (.ref e3) (.ref e7) = some false)
    (kt3_9 : PySem.W.kitOne K (.ref e3) (.ref e8) = some false)
    (xo3_9 : PySem.W.exmOne K (.ref e3) (.ref e8) = some false)
    (kt3_10 : PySem.W.kitOne K (.ref e3) (.ref e9) = some false)
    (xo3_10 : PySem.W.exmOne K (.ref e3) (.ref e9) = some false)
    (kt3_11 : PySem.W.kitOne K (.ref e3) (.ref e10) = some false)
    (xo3_11 : PySem.W.exmOne K (.ref e3) (.ref e10) = some false)
    (kt3_12 : PySem.W.kitOne K (.ref e3) (.ref e11) = some false)
    (xo3_12 : PySem.W.exmOne K (.ref e3) (.ref e11) = some false)
    (kt3_13 : PySem.W.kitOne K (.ref e3) (.ref e12) = some false)
    (xo3_13 : PySem.W.exmOne K (.ref e3) (.ref e12) = some false)
    (kt3_14 : PySem.W.kitOne K (.ref e3) (.ref e13) = some false)
    (xo3_14 : PySem.W.exmOne K (.ref e3) (.ref e13) = some false)
    (kt3_15 : PySem.W.kitOne K (.ref e3) (.ref e14) = some false)
    (xo3_15 : PySem.W.exmOne K (.ref e3) (.ref e14) = some false)
    (kt3_16 : PySem.W.kitOne K (.ref e3) (.ref e15) = some false)
    (xo3_16 : PySem.W.exmOne K (.ref e3) (.ref e15) = some false)
    (kt3_17 : PySem.W.kitOne K (.ref e3) (.ref e16) = some false)
    (xo3_17 : PySem.W.exmOne K (.ref e3) (.ref e16) = some false)
    (xg4 : PySem.W.findIn K (.ref e4) (Str.ofString "__getattribute__") = some (some (.builtin "BaseException.__getattribute__")))
    (xk4 : PySem.W.findIn K (.ref e4) (Str.ofString "__getattr__") = some none)
    (xs4 : PySem.W.subIn K (.ref e4) (.type "BaseException") = some true)
    (xd4 : PySem.W.hasDictIn K e4 = true)
    (xa4 : PySem.W.findIn K (.ref e4) (Str.ofString "__class__") = some (some (.builtin "object.__class__")))
    (xm4 : PySem.W.mroIn K e4 (.type "object") = some true)
    (fa4 : PySem.W.findIn K (.ref e4) (Str.ofString "at") = some none)
    (fp4 : PySem.W.findIn K (.ref e4) (Str.ofString "part") = some none)
    (rk4 : PySem.W.keepIn K (.ref e4) = true)
    (rx4 : PySem.W.excIn K e4 [.type "ValueError", .type "Exception", .type "BaseException", .type "object"] "ValueError.__new__" = true)
    (rt4 : PySem.W.typeIn K (.ref e4) = some (.type "type"))
    (kt4_0 : PySem.W.kitOne K (.ref e4) (.type "ValueError") = some true)
    (xo4_0 : PySem.W.exmOne K (.ref e4) (.type "ValueError") = some true)
    (kt4_1 : PySem.W.kitOne K (.ref e4) (.ref e0) = some true)
    (xo4_1 : PySem.W.exmOne K (.ref e4) (.ref e0) = some true)
    (kt4_2 : PySem.W.kitOne K (.ref e4) (.ref e1) = some false)
    (xo4_2 : PySem.W.exmOne K (.ref e4) (.ref e1) = some false)
    (kt4_3 : PySem.W.kitOne K (.ref e4) (.ref e2) = some false)
    (xo4_3 : PySem.W.exmOne K (.ref e4) (.ref e2) = some false)
    (kt4_4 : PySem.W.kitOne K (.ref e4) (.ref e3) = some false)
    (xo4_4 : PySem.W.exmOne K (.ref e4) (.ref e3) = some false)
    (kt4_5 : PySem.W.kitOne K (.ref e4) (.ref e4) = some true)
    (xo4_5 : PySem.W.exmOne K (.ref e4) (.ref e4) = some true)
    (kt4_6 : PySem.W.kitOne K (.ref e4) (.ref e5) = some false)
    (xo4_6 : PySem.W.exmOne K (.ref e4) (.ref e5) = some false)
    (kt4_7 : PySem.W.kitOne K (.ref e4) (.ref e6) = some false)
    (xo4_7 : PySem.W.exmOne K (.ref e4) (.ref e6) = some false)
    (kt4_8 : PySem.W.kitOne K (.ref e4) (.ref e7) = some false)
    (xo4_8 : PySem.W.exmOne K (.ref e4) (.ref e7) = some false)
    (kt4_9 : PySem.W.kitOne K (.ref e4) (.ref e8) = some false)
    (xo4_9 : PySem.W.exmOne K (.ref e4) (.ref e8) = some false)
    (kt4_10 : PySem.W.kitOne K (.ref e4) (.ref e9) = some false)
    (xo4_10 : PySem.W.exmOne K (.ref e4) (.ref e9) = some false)
    (kt4_11 : PySem.W.kitOne K (.ref e4) (.ref e10) = some false)
    (xo4_11 : PySem.W.exmOne K (.ref e4) (.ref e10) = some false)
    (kt4_12 : PySem.W.kitOne K (.ref e4) (.ref e11) = some false)
    (xo4_12 : PySem.W.exmOne K (.ref e4) (.ref e11) = some false)
    (kt4_13 : PySem.W.kitOne K (.ref e4) (.ref e12) = some false)
    (xo4_13 : PySem.W.exmOne K (.ref e4) (.ref e12) = some false)
    (kt4_14 : PySem.W.kitOne K (.ref e4) (.ref e13) = some false)
    (xo4_14 : PySem.W.exmOne K (.ref e4) (.ref e13) = some false)
    (kt4_15 : PySem.W.kitOne K (.ref e4) (.ref e14) = some false)
    (xo4_15 : PySem.W.exmOne K (.ref e4) (.ref e14) = some false)
    (kt4_16 : PySem.W.kitOne K (.ref e4) (.ref e15) = some false)
    (xo4_16 : PySem.W.exmOne K (.ref e4) (.ref e15) = some false)
    (kt4_17 : PySem.W.kitOne K (.ref e4) (.ref e16) = some false)
    (xo4_17 : PySem.W.exmOne K (.ref e4) (.ref e16) = some false)
    (xg5 : PySem.W.findIn K (.ref e5) (Str.ofString "__getattribute__") = some (some (.builtin "BaseException.__getattribute__")))
    (xk5 : PySem.W.findIn K (.ref e5) (Str.ofString "__getattr__") = some none)
    (xs5 : PySem.W.subIn K (.ref e5) (.type "BaseException") = some true)
    (xd5 : PySem.W.hasDictIn K e5 = true)
    (xa5 : PySem.W.findIn K (.ref e5) (Str.ofString "__class__") = some (some (.builtin "object.__class__")))
    (xm5 : PySem.W.mroIn K e5 (.type "object") = some true)
    (fa5 : PySem.W.findIn K (.ref e5) (Str.ofString "at") = some none)
    (fp5 : PySem.W.findIn K (.ref e5) (Str.ofString "part") = some none)
    (rk5 : PySem.W.keepIn K (.ref e5) = true)
    (rx5 : PySem.W.excIn K e5 [.type "ValueError", .type "Exception", .type "BaseException", .type "object"] "ValueError.__new__" = true)
    (rt5 : PySem.W.typeIn K (.ref e5) = some (.type "type"))
    (kt5_0 : PySem.W.kitOne K (.ref e5) (.type "ValueError") = some true)
    (xo5_0 : PySem.W.exmOne K (.ref e5) (.type "ValueError") = some true)
    (kt5_1 : PySem.W.kitOne K (.ref e5) (.ref e0) = some true)
    (xo5_1 : PySem.W.exmOne K (.ref e5) (.ref e0) = some true)
    (kt5_2 : PySem.W.kitOne K (.ref e5) (.ref e1) = some false)
    (xo5_2 : PySem.W.exmOne K (.ref e5) (.ref e1) = some false)
    (kt5_3 : PySem.W.kitOne K (.ref e5) (.ref e2) = some false)
    (xo5_3 : PySem.W.exmOne K (.ref e5) (.ref e2) = some false)
    (kt5_4 : PySem.W.kitOne K (.ref e5) (.ref e3) = some false)
    (xo5_4 : PySem.W.exmOne K (.ref e5) (.ref e3) = some false)
    (kt5_5 : PySem.W.kitOne K (.ref e5) (.ref e4) = some false)
    (xo5_5 : PySem.W.exmOne K (.ref e5) (.ref e4) = some false)
    (kt5_6 : PySem.W.kitOne K (.ref e5) (.ref e5) = some true)
    (xo5_6 : PySem.W.exmOne K (.ref e5) (.ref e5) = some true)
    (kt5_7 : PySem.W.kitOne K (.ref e5) (.ref e6) = some false)
    (xo5_7 : PySem.W.exmOne K (.ref e5) (.ref e6) = some false)
    (kt5_8 : PySem.W.kitOne K (.ref e5) (.ref e7) = some false)
    (xo5_8 : PySem.W.exmOne K (.ref e5) (.ref e7) = some false)
    (kt5_9 : PySem.W.kitOne K (.ref e5) (.ref e8) = some false)
    (xo5_9 : PySem.W.exmOne K (.ref e5) (.ref e8) = some false)
    (kt5_10 : PySem.W.kitOne K (.ref e5) (.ref e9) = some false)
    (xo5_10 : PySem.W.exmOne K (.ref e5) (.ref e9) = some false)
    (kt5_11 : PySem.W.kitOne K (.ref e5) (.ref e10) = some false)
    (xo5_11 : PySem.W.exmOne K (.ref e5) (.ref e10) = some false)
    (kt5_12 : PySem.W.kitOne K (.ref e5) (.ref e11) = some false)
    (xo5_12 : PySem.W.exmOne K (.ref e5) (.ref e11) = some false)
    (kt5_13 : PySem.W.kitOne K (.ref e5) (.ref e12) = some false)
    (xo5_13 : PySem.W.exmOne K (.ref e5) (.ref e12) = some false)
    (kt5_14 : PySem.W.kitOne K (.ref e5) (.ref e13) = some false)
    (xo5_14 : PySem.W.exmOne K (.ref e5) (.ref e13) = some false)
    (kt5_15 : PySem.W.kitOne K (.ref e5) (.ref e14) = some false)
    (xo5_15 : PySem.W.exmOne K (.ref e5) (.ref e14) = some false)
    (kt5_16 : PySem.W.kitOne K (.ref e5) (.ref e15) = some false)
    (xo5_16 : PySem.W.exmOne K (.ref e5) (.ref e15) = some false)
    (kt5_17 : PySem.W.kitOne K (.ref e5) (.ref e16) = some false)
    (xo5_17 : PySem.W.exmOne K (.ref e5) (.ref e16) = some false)
    (xg6 : PySem.W.findIn K (.ref e6) (Str.ofString "__getattribute__") = some (some (.builtin "BaseException.__getattribute__")))
    (xk6 : PySem.W.findIn K (.ref e6) (Str.ofString "__getattr__") = some none)
    (xs6 : PySem.W.subIn K (.ref e6) (.type "BaseException") = some true)
    (xd6 : PySem.W.hasDictIn K e6 = true)
    (xa6 : PySem.W.findIn K (.ref e6) (Str.ofString "__class__") = some (some (.builtin "object.__class__")))
    (xm6 : PySem.W.mroIn K e6 (.type "object") = some true)
    (fa6 : PySem.W.findIn K (.ref e6) (Str.ofString "at") = some none)
    (fp6 : PySem.W.findIn K (.ref e6) (Str.ofString "part") = some none)
    (rk6 : PySem.W.keepIn K (.ref e6) = true)
    (rx6 : PySem.W.excIn K e6 [.type "ValueError", .type "Exception", .type "BaseException", .type "object"] "ValueError.__new__" = true)
    (rt6 : PySem.W.typeIn K (.ref e6) = some (.type "type"))
    (kt6_0 : PySem.W.kitOne K (.ref e6) (.type "ValueError") = some true)
    (xo6_0 : PySem.W.exmOne K (.ref e6) (.type "ValueError") = some true)
    (kt6_1 : PySem.W.kitOne K (.ref e6) (.ref e0) = some true)
    (xo6_1 : PySem.W.exmOne K (.ref e6) (.ref e0) = some true)
    (kt6_2 : PySem.W.kitOne K (.ref e6) (.ref e1) = some false)
    (xo6_2 : PySem.W.exmOne K (.ref e6) (.ref e1) = some false)
    (kt6_3 : PySem.W.kitOne K (.ref e6) (.ref e2) = some false)
    (xo6_3 : PySem.W.exmOne K (.ref e6) (.ref e2) = some false)
    (kt6_4 : PySem.W.kitOne K (.ref e6) (.ref e3) = some false)
    (xo6_4 : PySem.W.exmOne K (.ref e6) (.ref e3) = some false)
    (kt6_5 : PySem.W.kitOne K (.ref e6) (.ref e4) = some false)
    (xo6_5 : PySem.W.exmOne K (.ref e6) (.ref e4) = some false)
    (kt6_6 : PySem.W.kitOne K (.ref e6) (.ref e5) = some false)
    (xo6_6 : PySem.W.exmOne K (.ref e6) (.ref e5) = some false)
    (kt6_7 : PySem.W.kitOne K (.ref e6) (.ref e6) = some true)
    (xo6_7 : PySem.W.exmOne K (.ref e6) (.ref e6) = some true)
    (kt6_8 : PySem.W.kitOne K (.ref e6) (.ref e7) = some false)
    (xo6_8 : PySem.W.exmOne K (.ref e6) (.ref e7) = some false)
    (kt6_9 : PySem.W.kitOne K (.ref e6) (.ref e8) = some false)
    (xo6_9 : PySem.W.exmOne K (.ref e6) (.ref e8) = some false)
    (kt6_10 : PySem.W.kitOne K (.ref e6) (.ref e9) = some false)
    (xo6_10 : PySem.W.exmOne K (.ref e6) (.ref e9) = some false)
    (kt6_11 : PySem.W.kitOne K (.ref e6) (.ref e10) = some false)
    (xo6_11 : PySem.W.exmOne K (.ref e6) (.ref e10) = some false)
    (kt6_12 : PySem.W.kitOne K (.ref e6) (.ref e11) = some false)
    (xo6_12 : PySem.W.exmOne K (.ref e6) (.ref e11) = some false)
    (kt6_13 : PySem.W.kitOne K (.ref e6) (.ref e12) = some false)
    (xo6_13 : PySem.W.exmOne K (.ref e6) (.ref e12) = some false)
    (kt6_14 : PySem.W.kitOne K (.ref e6) (.ref e13) = some false)
    (xo6_14 : PySem.W.exmOne K (.ref e6) (.ref e13) = some false)
    (kt6_15 : PySem.W.kitOne K (.ref e6) (.ref e14) = some false)
    (xo6_15 : PySem.W.exmOne K (.ref e6) (.ref e14) = some false)
    (kt6_16 : PySem.W.kitOne K (.ref e6) (.ref e15) = some false)
    (xo6_16 : PySem.W.exmOne K (.ref e6) (.ref e15) = some false)
    (kt6_17 : PySem.W.kitOne K (.ref e6) (.ref e16) = some false)
    (xo6_17 : PySem.W.exmOne K (.ref e6) (.ref e16) = some false)
    (xg7 : PySem.W.findIn K (.ref e7) (Str.ofString "__getattribute__") = some (some (.builtin "BaseException.__getattribute__")))
    (xk7 : PySem.W.findIn K (.ref e7) (Str.ofString "__getattr__") = some none)
    (xs7 : PySem.W.subIn K (.ref e7) (.type "BaseException") = some true)
    (xd7 : PySem.W.hasDictIn K e7 = true)
    (xa7 : PySem.W.findIn K (.ref e7) (Str.ofString "__class__") = some (some (.builtin "object.__class__")))
    (xm7 : PySem.W.mroIn K e7 (.type "object") = some true)
    (fa7 : PySem.W.findIn K (.ref e7) (Str.ofString "at") = some none)
    (fp7 : PySem.W.findIn K (.ref e7) (Str.ofString "part") = some none)
    (rk7 : PySem.W.keepIn K (.ref e7) = true)
    (rx7 : PySem.W.excIn K e7 [.type "ValueError", .type "Exception", .type "BaseException", .type "object"] "ValueError.__new__" = true)
    (rt7 : PySem.W.typeIn K (.ref e7) = some (.type "type"))
    (kt7_0 : PySem.W.kitOne K (.ref e7) (.type "ValueError") = some true)
    (xo7_0 : PySem.W.exmOne K (.ref e7) (.type "ValueError") = some true)
    (kt7_1 : PySem.W.kitOne K (.ref e7) (.ref e0) = some true)
    (xo7_1 : PySem.W.exmOne K (.ref e7) (.ref e0) = some true)
    (kt7_2 : PySem.W.kitOne K (.ref e7) (.ref e1) = some false)
    (xo7_2 : PySem.W.exmOne K (.ref e7) (.ref e1) = some false)
    (kt7_3 : PySem.W.kitOne K (.ref e7) (.ref e2) = some false)
    (xo7_3 : PySem.W.exmOne K (.ref e7) (.ref e2) = some false)
    (kt7_4 : PySem.W.kitOne K (.ref e7) (.ref e3) = some false)
    (xo7_4 : PySem.W.exmOne K (.ref e7) (.ref e3) = some false)
    (kt7_5 : PySem.W.kitOne K (.ref e7) (.ref e4) = some false)
    (xo7_5 : PySem.W.exmOne K (.ref e7) (.ref e4) = some false)
    (kt7_6 : PySem.W.kitOne K (.ref e7) (.ref e5) = some false)
    (xo7_6 : PySem.W.exmOne K (.ref e7) (.ref e5) = some false)
    (kt7_7 : PySem.W.kitOne K (.ref e7) (.ref e6) = some false)
    (xo7_7 : PySem.W.exmOne K (.ref e7) (.ref e6) = some false)
    (kt7_8 : PySem.W.kitOne K (.ref e7) (.ref e7) = some true)
    (xo7_8 : PySem.W.exmOne K (.ref e7) (.ref e7) = some true)
    (kt7_9 : PySem.W.kitOne K (.ref e7) (.ref e8) = some false)
    (xo7_9 : PySem.W.exmOne K (.ref e7) (.ref e8) = some false)
    (kt7_10 : PySem.W.kitOne K (.ref e7) (.ref e9) = some false)
    (xo7_10 : PySem.W.exmOne K (.ref e7) (.ref e9) = some false)
    (kt7_11 : PySem.W.kitOne K (.ref e7) (.ref e10) = some false)
    (xo7_11 : PySem.W.exmOne K (.ref e7) (.ref e10) = some false)
    (kt7_12 : PySem.W.kitOne K (.ref e7) (.ref e11) = some false)
    (xo7_12 : PySem.W.exmOne K (.ref e7) (.ref e11) = some false)
    (kt7_13 : PySem.W.kitOne K (.ref e7) (.ref e12) = some false)
    (xo7_13 : PySem.W.exmOne K (.ref e7) (.ref e12) = some false)
    (kt7_14 : PySem.W.kitOne K (.ref e7) (.ref e13) = some false)
    (xo7_14 : PySem.W.exmOne K (.ref e7) (.ref e13) = some false)
    (kt7_15 : PySem.W.kitOne K (.ref e7) (.ref e14) = some false)
    (xo7_15 : PySem.W.exmOne K (.ref e7) (.ref e14) = some false)
    (kt7_16 : PySem.W.kitOne K (.ref e7) (.ref e15) = some false)
    (xo7_16 : PySem.W.exmOne K (.ref e7) (.ref e15) = some false)
    (kt7_17 : PySem.W.kitOne K (.ref e7) (.ref e16) = some false)
    (xo7_17 : PySem.W.exmOne K (.ref e7) (.ref e16) = some false)
    (xg8 : PySem.W.findIn K (.ref e8) (Str.ofString "__getattribute__") = some (some (.builtin "BaseException.__getattribute__")))
    (xk8 : PySem.W.findIn K (.ref e8) (Str.ofString "__getattr__") = some none)
    (xs8 : PySem.W.subIn K (.ref e8) (.type "BaseException") = some true)
    (xd8 : PySem.W.hasDictIn K e8 = true)
    (xa8 : PySem.W.findIn K (.ref e8) (Str.ofString "__class__") = some (some (.builtin "object.__class__")))
    (xm8 : PySem.W.mroIn K e8 (.type "object") = some true)
    (fa8 : PySem.W.findIn K (.ref e8) (Str.ofString "at") = some none)
    (fp8 : PySem.W.findIn K (.ref e8) (Str.ofString "part") = some none)
    (rk8 : PySem.W.keepIn K (.ref e8) = true)
    (rx8 : PySem.W.excIn K e8 [.type "ValueError", .type "Exception", .type "BaseException", .type "object"] "ValueError.__new__" = true)
    (rt8 : PySem.W.typeIn K (.ref e8) = some (.type "type"))
    (kt8_0 : PySem.W.kitOne K (.ref e8) (.type "ValueError") = some true)
    (xo8_0 : PySem.W.exmOne K (.ref e8) (.type "ValueError") = some true)
    (kt8_1 : PySem.W.kitOne K (.ref e8) (.ref e0) = some true)
    (xo8_1 : PySem.W.exmOne K (.ref e8) (.ref e0) = some true)
    (kt8_2 : PySem.W.kitOne K (.ref e8) (.ref e1) = some false)
    (xo8_2 : PySem.W.exmOne K (.ref e8) (.ref e1) = some false)
    (kt8_3 : PySem.W.kitOne K (.ref e8) (.ref e2) = some false)
    (xo8_3 : PySem.W.exmOne K (.ref e8) (.ref e2) = some false)
    (kt8_4 : PySem.W.kitOne K (.ref e8) (.ref e3) = some false)
    (xo8_4 : PySem.W.exmOne K (.ref e8) (.ref e3) = some false)
    (kt8_5 : PySem.W.kitOne K (.ref e8) (.ref e4) = some false)
    (xo8_5 : PySem.W.exmOne K (.ref e8) (.ref e4) = some false)
    (kt8_6 : PySem.W.kitOne K (.ref e8) (.ref e5) = some false)
    (xo8_6 : PySem.W.exmOne K (.ref e8) (.ref e5) = some false)
    (kt8_7 : PySem.W.kitOne K (.ref e8) (.ref e6) = some false)
    (xo8_7 : PySem.W.exmOne K (.ref e8) (.ref e6) = some false)
    (kt8_8 : PySem.W.kitOne K (.ref e8) (.ref e7) = some false)
    (xo8_8 : PySem.W.exmOne K (.ref e8) (.ref e7) = some false)
    (kt8_9 : PySem.W.kitOne K (.ref e8) (.ref e8) = some true)
    (xo8_9 : PySem.W.exmOne K (.ref e8) (.ref e8) = some true)
    (kt8_10 : PySem.W.kitOne K (.ref e8) (.ref e9) = some false)
    (xo8_10 : PySem.W.exmOne K (.ref e8) (.ref e9) = some false)
    (kt8_11 : PySem.W.kitOne K (.ref e8) (.ref e10) = some false)
    (xo8_11 : PySem.W.exmOne K (.ref e8) (.ref e10) = some false)
    (kt8_12 : PySem.W.kitOne K (.ref e8) (.ref e11) = some false)
    (xo8_12 : PySem.W.exmOne K (.ref e8) (.ref e11) = some false)
    (kt8_13 : PySem.W.kitOne K (.ref e8) (.ref e12) = some false)
    (xo8_13 : PySem.W.exmOne K (.ref e8) (.ref e12) = some false)
    (kt8_14 : PySem.W.kitOne K (.ref e8) (.ref e13) = some false)
    (xo8_14 : PySem.W.exmOne K (.ref e8) (.ref e13) = some false)
    (kt8_15 : PySem.W.kitOne K (.ref e8) (.ref e14) = some false)
    (xo8_15 : PySem.W.exmOne K (.ref e8) (.ref e14) = some false)
    (kt8_16 : PySem.W.kitOne K (.ref e8) (.ref e15) = some false)
    (xo8_16 : PySem.W.exmOne K (.ref e8) (.ref e15) = some false)
    (kt8_17 : PySem.W.kitOne K (.ref e8) (.ref e16) = some false)
    (xo8_17 : PySem.W.exmOne K (.ref e8) (.ref e16) = some false)
    (xg9 : PySem.W.findIn K (.ref e9) (Str.ofString "__getattribute__") = some (some (.builtin "BaseException.__getattribute__")))
    (xk9 : PySem.W.findIn K (.ref e9) (Str.ofString "__getattr__") = some none)
    (xs9 : PySem.W.subIn K (.ref e9) (.type "BaseException") = some true)
    (xd9 : PySem.W.hasDictIn K e9 = true)
    (xa9 : PySem.W.findIn K (.ref e9) (Str.ofString "__class__") = some (some (.builtin "object.__class__")))
    (xm9 : PySem.W.mroIn K e9 (.type "object") = some true)
    (fa9 : PySem.W.findIn K (.ref e9) (Str.ofString "at") = some none)
    (fp9 : PySem.W.findIn K (.ref e9) (Str.ofString "part") = some none)
    (rk9 : PySem.W.keepIn K (.ref e9) = true)
    (rx9 : PySem.W.excIn K e9 [.type "ValueError", .type "Exception", .type "BaseException", .type "object"] "ValueError.__new__" = true)
    (rt9 : PySem.W.typeIn K (.ref e9) = some (.type "type"))
    (kt9_0 : PySem.W.kitOne K (.ref e9) (.type "ValueError") = some true)
    (xo9_0 : PySem.W.exmOne K (.ref e9) (.type "ValueError") = some true)
    (kt9_1 : PySem.W.kitOne K (.ref e9) (.ref e0) = some true)
    (xo9_1 : PySem.W.exmOne K (.ref e9) (.ref e0) = some true)
    (kt9_2 : PySem.W.kitOne K (.ref e9) (.ref e1) = some false)
    (xo9_2 : PySem.W.exmOne K (.ref e9) (.ref e1) = some false)
    (kt9_3 : PySem.W.kitOne K (.ref e9) (.ref e2) = some false)
    (xo9_3 : PySem.W.exmOne K (.ref e9) (.ref e2) = some false)
    (kt9_4 : PySem.W.kitOne K (.ref e9) (.ref e3) = some false)
    (xo9_4 : PySem.W.exmOne K (.ref e9) (.ref e3) = some false)
    (kt9_5 : PySem.W.kitOne K (.ref e9) (.ref e4) = some false)
    (xo9_5 : PySem.W.exmOne K (.ref e9) (.ref e4) = some false)
    (kt9_6 : PySem.W.kitOne K (.ref e9) (.ref e5) = some false)
    (xo9_6 : PySem.W.exmOne K (.ref e9) (.ref e5) = some false)
    (kt9_7 : PySem.W.kitOne K (.ref e9) (.ref e6) = some false)
    (xo9_7 : PySem.W.exmOne K (.ref e9) (.ref e6) = some false)
    (kt9_8 : PySem.W.kitOne K (.ref e9) (.ref e7) = some false)
    (xo9_8 : PySem.W.exmOne K (.ref e9) (.ref e7) = some false)
    (kt9_9 : PySem.W.kitOne K (.ref e9) (.ref e8) = some false)
    (xo9_9 : PySem.W.exmOne K (.ref e9) (.ref e8) = some false)
    (kt9_10 : PySem.W.kitOne K (.ref e9) (.ref e9) = some true)
    (xo9_10 : PySem.W.exmOne K (.ref e9) (.ref e9) = some true)
    (kt9_11 : PySem.W.kitOne K (.ref e9) (.ref e10) = some false)
    (xo9_11 : PySem.W.exmOne K (.ref e9) (.ref e10) = some false)
    (kt9_12 : PySem.W.kitOne K (.ref e9) (.ref e11) = some false)
    (xo9_12 : PySem.W.exmOne K (.ref e9) (.ref e11) = some false)
    (kt9_13 : PySem.W.kitOne K (.ref e9) (.ref e12) = some false)
    (xo9_13 : PySem.W.exmOne K (.ref e9) (.ref e12) = some false)
    (kt9_14 : PySem.W.kitOne K (.ref e9) (.ref e13) = some false)
    (xo9_14 : PySem.W.exmOne K (.ref e9) (.ref e13) = some false)
    (kt9_15 : PySem.W.kitOne K (.ref e9) (.ref e14) = some false)
    (xo9_15 : PySem.W.exmOne K (.ref e9) (.ref e14) = some false)
    (kt9_16 : PySem.W.kitOne K (.ref e9) (.ref e15) = some false)
    (xo9_16 : PySem.W.exmOne K (.ref e9) (.ref e15) = some false)
    (kt9_17 : PySem.W.kitOne K (.ref e9) (.ref e16) = some false)
    (xo9_17 : PySem.W.exmOne K (.ref e9) (.ref e16) = some false)
    (xg10 : PySem.W.findIn K (.ref e10) (Str.ofString "__getattribute__") = some (some (.builtin "BaseException.__getattribute__")))
    (xk10 : PySem.W.findIn K (.ref e10) (Str.ofString "__getattr__") = some none)
    (xs10 : PySem.W.subIn K (.ref e10) (.type "BaseException") = some true)
    (xd10 : PySem.W.hasDictIn K e10 = true)
    (xa10 : PySem.W.findIn K (.ref e10) (Str.ofString "__class__") = some (some (.builtin "object.__class__")))
    (xm10 : PySem.W.mroIn K e10 (.type "object") = some true)
    (fa10 : PySem.W.findIn K (.ref e10) (Str.ofString "at") = some none)
    (fp10 : PySem.W.findIn K (.ref e10) (Str.ofString "part") = some none)
    (rk10 : PySem.W.keepIn K (.ref e10) = true)
    (rx10 : PySem.W.excIn K e10 [.type "ValueError", .type "Exception", .type "BaseException", .type "object"] "ValueError.__new__" = true)
    (rt10 : PySem.W.typeIn K (.ref e10) = some (.type "type"))
    (kt10_0 : PySem.W.kitOne K (.ref e10) (.type "ValueError") = some true)
    (xo10_0 : PySem.W.exmOne K (.ref e10) (.type "ValueError") = some true)
    (kt10_1 : PySem.W.kitOne K (.ref e10) (.ref e0) = some true)
    (xo10_1 : PySem.W.exmOne K (.ref e10) (.ref e0) = some true)
    (kt10_2 : PySem.W.kitOne K (.ref e10) (.ref e1) = some false)
    (xo10_2 : PySem.W.exmOne K (.ref e10) (.ref e1) = some false)
    (kt10_3 : PySem.W.kitOne K (.ref e10) (.ref e2) = some false)
    (xo10_3 : PySem.W.exmOne K (.ref e10) (.ref e2) = some false)
    (kt10_4 : PySem.W.kitOne K (.ref e10) (.ref e3) = some false)
    (xo10_4 : PySem.W.exmOne K (.ref e10) (.ref e3) = some false)
    (kt10_5 : PySem.W.kitOne K (.ref e10) (.ref e4) = some false)
    (xo10_5 : PySem.W.exmOne K (.ref e10) (.ref e4) = some false)
    (kt10_6 : PySem.W.kitOne K (.ref e10) (.ref e5) = some false)
    (xo10_6 : PySem.W.exmOne K (.ref e10) (.ref e5) = some false)
    (kt10_7 : PySem.W.kitOne K (.ref e10) (.ref e6) = some false)
    (xo10_7 : PySem.W.exmOne K (.ref e10) (.ref e6) = some false)
    (kt10_8 : PySem.W.kitOne K (.ref e10) (.ref e7) = some false)
    (xo10_8 : PySem.W.exmOne K (.ref e10) (.ref e7) = some false)
    (kt10_9 : PySem.W.kitOne K (.ref e10) (.ref e8) = some false)
    (xo10_9 : PySem.W.exmOne K (.ref e10) (.ref e8) = some false)
    (kt10_10 : PySem.W.kitOne K (.ref e10) (.ref e9) = some false)
    (xo10_10 : PySem.W.exmOne K (.ref e10) (.ref e9) = some false)
    (kt10_11 : PySem.W.kitOne K (.ref e10) (.ref e10) = some true)
    (xo10_11 : PySem.W.exmOne K (.ref e10) (.ref e10) = some true)
    (kt10_12 : PySem.W.kitOne K (.ref e10) (.ref e11) = some false)
    (xo10_12 : PySem.W.exmOne K (.ref e10) (.ref e11) = some false)
    (kt10_13 : PySem.W.kitOne K (.ref e10) (.ref e12) = some false)
    (xo10_13 : PySem.W.exmOne K (.ref e10) (.ref e12) = some false)
    (kt10_14 : PySem.W.kitOne K (.ref e10) (.ref e13) = some false)
    (xo10_14 : PySem.W.exmOne K (.ref e10) (.ref e13) = some false)
    (kt10_15 : PySem.W.kitOne K (.ref e10) (.ref e14) = some false)
    (xo10_15 : PySem.W.exmOne K (.ref e10) (.ref e14) = some false)
    (kt10_16 : PySem.W.kitOne K (.ref e10) (.ref e15) = some false)
    (xo10_16 : PySem.W.exmOne K (.ref e10) (.ref e15) = some false)
    (kt10_17 : PySem.W.kitOne K (.ref e10) (.ref e16) = some false)
    (xo10_17 : PySem.W.exmOne K (.ref e10) (.ref e16) = some false)
    (xg11 : PySem.W.findIn K (.ref e11) (Str.ofString "__getattribute__") = some (some (.builtin "BaseException.__getattribute__")))
    (xk11 : PySem.W.findIn K (.ref e11) (Str.ofString "__getattr__") = some none)
    (xs11 : PySem.W.subIn K (.ref e11) (.type "BaseException") = some true)
    (xd11 : PySem.W.hasDictIn K e11 = true)
    (xa11 : PySem.W.findIn K (.ref e11) (Str.ofString "__class__") = some (some (.builtin "object.__class__")))
    (xm11 : PySem.W.mroIn K e11 (.type "object") = some true)
    (fa11 : PySem.W.findIn K (.ref e11) (Str.ofString "at") = some none)
    (fp11 : PySem.W.findIn K (.ref e11) (Str.ofString "part") = some none)
    (rk11 : PySem.W.keepIn K (.ref e11) = true)
    (rx11 : PySem.W.excIn K e11 [.type "ValueError", .type "Exception", .type "BaseException", .type "object"] "ValueError.__new__" = true)
    (rt11 : PySem.W.typeIn K (.ref e11) = some (.type "type"))
    (kt11_0 : PySem.W.kitOne K (.ref e11) (.type "ValueError") = some true)
    (xo11_0 : PySem.W.exmOne K (.ref e11) (.type "ValueError") = some true)
    (kt11_1 : PySem.W.kitOne K (.ref e11) (.ref e0) = some true)
    (xo11_1 : PySem.W.exmOne K (.ref e11) (.ref e0) = some true)
    (kt11_2 : PySem.W.kitOne K (.ref e11) (.ref e1) = some false)
    (xo11_2 : PySem.W.exmOne K (.ref e11) (.ref e1) = some false)
    (kt11_3 : PySem.W.kitOne K (.ref e11) (.ref e2) = some false)
    (xo11_3 : PySem.W.exmOne K (.ref e11) (.ref e2) = some false)
    (kt11_4 : PySem.W.kitOne K (.ref e11) (.ref e3) = some false)
    (xo11_4 : PySem.W.exmOne K (.ref e11) (.ref e3) = some false)
    (kt11_5 : PySem.W.kitOne K (.ref e11) (.ref e4) = some false)
    (xo11_5 : PySem.W.exmOne K (.ref e11) (.ref e4) = some false)
    (kt11_6 : PySem.W.kitOne K (.ref e11) (.ref e5) = some false)
    (xo11_6 : PySem.W.exmOne K (.ref e11) (.ref e5) = some false)
    (kt11_7 : PySem.W.kitOne K (.ref e11) (.ref e6) = some false)
    (xo11_7 : PySem.W.exmOne K (.ref e11) (.ref e6) = some false)
    (kt11_8 : PySem.W.kitOne K (.ref e11) (.ref e7) = some false)
    (xo11_8 : PySem.W.exmOne K (.ref e11) (.ref e7) = some false)
    (kt11_9 : PySem.W.kitOne K (.ref e11) (.ref e8) = some false)
    (xo11_9 : PySem.W.exmOne K (.ref e11) (.ref e8) = some false)
    (kt11_10 : PySem.W.kitOne K (.ref e11) (.ref e9) = some false)
    (xo11_10 : PySem.W.exmOne K (.ref e11) (.ref e9) = some false)
    (kt11_11 : PySem.W.kitOne K (.ref e11) (.ref e10) = some false)
    (xo11_11 : PySem.W.exmOne K (.ref e11) (.ref e10) = some false)
    (kt11_12 : PySem.W.kitOne K (.ref e11) (.ref e11) = some true)
    (xo11_12 : PySem.W.exmOne K (.ref e11) (.ref e11) = some true)
    (kt11_13 : PySem.W.kitOne K (.ref e11) (.ref e12) = some false)
    (xo11_13 : PySem.W.exmOne K (.ref e11) (.ref e12) = some false)
    (kt11_14 : PySem.W.kitOne K (.ref e11) (.ref e13) = some false)
    (xo11_14 : PySem.W.exmOne K (.ref e11) (.ref e13) = some false)
    (kt11_15 : PySem.W.kitOne K (.ref e11) (.ref e14) = some false)
    (xo11_15 : PySem.W.exmOne K (.ref e11) (.ref e14) = some false)
    (kt11_16 : PySem.W.kitOne K (.ref e11) (.ref e15) = some false)
    (xo11_16 : PySem.W.exmOne K (.ref e11) (.ref e15) = some false)
    (kt11_17 : PySem.W.kitOne K (.ref e11) (.ref e16) = some false)
    (xo11_17 : PySem.W.exmOne K (.ref e11) (.ref e16) = some false)
    (xg12 : PySem.W.findIn K (.ref e12) (Str.ofString "__getattribute__") = some (some (.builtin "BaseException.__getattribute__")))
    (xk12 : PySem.W.findIn K (.ref e12) (Str.ofString "__getattr__") = some none)
    (xs12 : PySem.W.subIn K (.ref e12) (.type "BaseException") = some true)
    (xd12 : PySem.W.hasDictIn K e12 = true)
    (xa12 : PySem.W.findIn K (.ref e12) (Str.ofString "__class__") = some (some (.builtin "object.__class__")))
    (xm12 : PySem.W.mroIn K e12 (.type "object") = some true)
    (fa12 : PySem.W.findIn K (.ref e12) (Str.ofString "at") = some none)
    (fp12 : PySem.W.findIn K (.ref e12) (Str.ofString "part") = some none)
    (rk12 : PySem.W.keepIn K (.ref e12) = true)
    (rx12 : PySem.W.excIn K e12 [.type "ValueError", .type "Exception", .type "BaseException", .type "object"] "ValueError.__new__" = true)
    (rt12 : PySem.W.typeIn K (.ref e12) = some (.type "type"))
    (kt12_0 : PySem.W.kitOne K (.ref e12) (.type "ValueError") = some true)
    (xo12_0 : PySem.W.exmOne K (.ref e12) (.type "ValueError") = some true)
    (kt12_1 : PySem.W.kitOne K (.ref e12) (.ref e0) = some true)
    (xo12_1 : PySem.W.exmOne K (.ref e12) (.ref e0) = some true)
    (kt12_2 : PySem.W.kitOne K (.ref e12) (.ref e1) = some false)
    (xo12_2 : PySem.W.exmOne K (.ref e12) (.ref e1) = some false)
    (kt12_3 : PySem.W.kitOne K (.ref e12) (.ref e2) = some false)
    (xo12_3 : PySem.W.exmOne K (.ref e12) (.ref e2) = some false)
    (kt12_4 : PySem.W.kitOne K (.ref e12) (.ref e3) = some false)
    (xo12_4 : PySem.W.exmOne K (.ref e12) (.ref e3) = some false)
    (kt12_5 : PySem.W.kitOne K (.ref e12) (.ref e4) = some false)
    (xo12_5 : PySem.W.exmOne K (.ref e12) (.ref e4) = some false)
    (kt12_6 : PySem.W.kitOne K (.ref e12) (.ref e5) = some false)
    (xo12_6 : PySem.W.exmOne K (.ref e12) (.ref e5) = some false)
    (kt12_7 : PySem.W.kitOne K (.ref e12) (.ref e6) = some false)
    (xo12_7 : PySem.W.exmOne K (.ref e12) (.ref e6) = some false)
    (kt12_8 : PySem.W.kitOne K (.ref e12) (.ref e7) = some false)
    (xo12_8 : PySem.W.exmOne K (.ref e12) (.ref e7) = some false)
    (kt12_9 : PySem.W.kitOne K (.ref e12) (.ref e8) = some false)
    (xo12_9 : PySem.W.exmOne K (.ref e12) (.ref e8) = some false)
    (kt12_10 : PySem.W.kitOne K (.ref e12) (.ref e9) = some false)
    (xo12_10 : PySem.W.exmOne K (.ref e12) (.ref e9) = some false)
    (kt12_11 : PySem.W.kitOne K (.ref e12) (.ref e10) = some false)
    (xo12_11 : PySem.W.exmOne K (.ref e12) (.ref e10) = some false)
    (kt12_12 : PySem.W.kitOne K (.ref e12) (.ref e11) = some false)
    (xo12_12 : PySem.W.exmOne K (.ref e12) (.ref e11) = some false)
    (kt12_13 : PySem.W.kitOne K (.ref e12) (.ref e12) = some true)
    (xo12_13 : PySem.W.exmOne K (.ref e12) (.ref e12) = some true)
    (kt12_14 : PySem.W.kitOne K (.ref e12) (.ref e13) = some false)
    (xo12_14 : PySem.W.exmOne K (.ref e12) (.ref e13) = some false)
    (kt12_15 : PySem.W.kitOne K (.ref e12) (.ref e14) = some false)
    (xo12_15 : PySem.W.exmOne K (.ref e12) (.ref e14) = some false)
    (kt12_16 : PySem.W.kitOne K (.ref e12) (.ref e15) = some false)
    (xo12_16 : PySem.W.exmOne K (.ref e12) (.ref e15) = some false)
    (kt12_17 : PySem.W.kitOne K (.ref e12) (.ref e16) = some false)
    (xo12_17 : PySem.W.exmOne K (.ref e12) (.ref e16) = some false)
    (xg13 : PySem.W.findIn K (.ref e13) (Str.ofString "__getattribute__") = some (some (.builtin "BaseException.__getattribute__")))
    (xk13 : PySem.W.findIn K (.ref e13) (Str.ofString "__getattr__") = some none)
    (xs13 : PySem.W.subIn K (.ref e13) (.type "BaseException") = some true)
    (xd13 : PySem.W.hasDictIn K e13 = true)
    (xa13 : PySem.W.findIn K (.ref e13) (Str.ofString "__class__") = some (some (.builtin "object.__class__")))
    (xm13 : PySem.W.mroIn K e13 (.type "object") = some true)
    (fa13 : PySem.W.findIn K (.ref e13) (Str.ofString "at") = some none)
    (fp13 : PySem.W.findIn K (.ref e13) (Str.ofString "part") = some none)
    (rk13 : PySem.W.keepIn K (.ref e13) = true)
    (rx13 : PySem.W.excIn K e13 [.type "ValueError", .type "Exception", .type "BaseException", .type "object"] "ValueError.__new__" = true)
    (rt13 : PySem.W.typeIn K (.ref e13) = some (.type "type"))
    (kt13_0 : PySem.W.kitOne K (.ref e13) (.type "ValueError") = some true)
    (xo13_0 : PySem.W.exmOne K (.ref e13) (.type "ValueError") = some true)
    (kt13_1 : PySem.W.kitOne K (.ref e13) (.ref e0) = some true)
    (xo13_1 : PySem.W.exmOne K (.ref e13) (.ref e0) = some true)
    (kt13_2 : PySem.W.kitOne K (.ref e13) (.ref e1) = some false)
    (xo13_2 : PySem.W.exmOne K (.ref e13) (.ref e1) = some false)
    (kt13_3 : PySem.W.kitOne K (.ref e13) (.ref e2) = some false)
    (xo13_3 : PySem.W.exmOne K (.ref e13) (.ref e2) = some false)
    (kt13_4 : PySem.W.kitOne K (.ref e13) (.ref e3) = some false)
    (xo13_4 : PySem.W.exmOne K (.ref e13) (.ref e3) = some false)
    (kt13_5 : PySem.W.kitOne K (.ref e13) (.ref e4) = some false)
    (xo13_5 : PySem.W.exmOne K (.ref e13) (.ref e4) = some false)
    (kt13_6 : PySem.W.kitOne K (.ref e13) (.ref e5) = some false)
    (xo13_6 : PySem.W.exmOne K (.ref e13) (.ref e5) = some false)
    (kt13_7 : PySem.W.kitOne K (.ref e13) (.ref e6) = some false)
    (xo13_7 : PySem.W.exmOne K (.ref e13) (.ref e6) = some false)
    (kt13_8 : PySem.W.kitOne K (.ref e13) (.ref e7) = some false)
    (xo13_8 : PySem.W.exmOne K (.ref e13) (.ref e7) = some false)
    (kt13_9 : PySem.W.kitOne K (.ref e13) (.ref e8) = some false)
    (xo13_9 : PySem.W.exmOne K (.ref e13) (.ref e8) = some false)
    (kt13_10 : PySem.W.kitOne K (.ref e13) (.ref e9) = some false)
    (xo13_10 : PySem.W.exmOne K (.ref e13) (.ref e9) = some false)
    (kt13_11 : PySem.W.kitOne K (.ref e13) (.ref e10) = some false)
    (xo13_11 : PySem.W.exmOne K (.ref e13) (.ref e10) = some false)
    (kt13_12 : PySem.W.kitOne K (.ref e13) (.ref e11) = some false)
    (xo13_12 : PySem.W.exmOne K (.ref e13) (.ref e11) = some false)
    (kt13_13 : PySem.W.kitOne K (.ref e13) (.ref e12) = some false)
    (xo13_13 : PySem.W.exmOne K (.ref e13) (.ref e12) = some false)
    (kt13_14 : PySem.W.kitOne K (.ref e13) (.ref e13) = some true)
    (xo13_14 : PySem.W.exmOne K (.ref e13) (.ref e13) = some true)
    (kt13_15 : PySem.W.kitOne K (.ref e13) (.ref e14) = some false)
    (xo13_15 : PySem.W.exmOne K (.ref e13) (.ref e14) = some false)
    (kt13_16 : PySem.W.kitOne K (.ref e13) (.ref e15) = some false)
    (xo13_16 : PySem.W.exmOne K (.ref e13) (.ref e15) = some false)
    (kt13_17 : PySem.W.kitOne K (.ref e13) (.ref e16) = some false)
    (xo13_17 : PySem.W.exmOne K (.ref e13) (.ref e16) = some false)
    (xg14 : PySem.W.findIn K (.ref e14) (Str.ofString "__getattribute__") = some (some (.builtin "BaseException.__getattribute__")))
    (xk14 : PySem.W.findIn K (.ref e14) (Str.ofString "__getattr__") = some none)
    (xs14 : PySem.W.subIn K (.ref e14) (.type "BaseException") = some true)
    (xd14 : PySem.W.hasDictIn K e14 = true)
    (xa14 : PySem.W.findIn K (.ref e14) (Str.ofString "__class__") = some (some (.builtin "object.__class__")))
    (xm14 : PySem.W.mroIn K e14 (.type "object") = some true)
    (fa14 : PySem.W.findIn K (.ref e14) (Str.ofString "at") = some none)
    (fp14 : PySem.W.findIn K (.ref e14) (Str.ofString "part") = some none)
    (rk14 : PySem.W.keepIn K (.ref e14) = true)
    (rt14 : PySem.W.typeIn K (.ref e14) = some (.type "type"))
    (sa14 : PySem.W.findIn K (.ref e14) (Str.ofString "__setattr__") = some (some (.builtin "object.__setattr__")))
    (in14 : PySem.W.findIn K (.ref e14) (Str.ofString "__init__") = some (some (.ref g14)))
    (it14 : PySem.W.typeIn K (.ref g14) = some (.type "function"))
    (il14 : K.lookup g14 = some ⟨ioc14, iod14, .func (PySem.W.fnOf (Str.ofString "__init__") (Str.ofString "NoFamily.__init__") (defArgs sI14) (defBody sI14) (defScope sI14) .none ikV14 idc14 ipm14 ian14 icd14 ict14), isl14⟩)
    (ic14 : PySem.W.codeIn K icd14 (Str.ofString "NoFamily.__init__") = true)
    (ik14 : PySem.W.keepIn K (.ref g14) = true)
    (xl14 : K.lookup e14 = some (PySem.excClassObj jn14 jq14 e14 jN14 jb14 [.ref e0, .type "ValueError", .type "Exception", .type "BaseException", .type "object"] true js14 ju14 ja14 jc14 jd14 j0_14 j1_14 j2_14 j3_14 j5_14 "ValueError.__new__"))
    (kt14_0 : PySem.W.kitOne K (.ref e14) (.type "ValueError") = some true)
    (xo14_0 : PySem.W.exmOne K (.ref e14) (.type "ValueError") = some true)
    (kt14_1 : PySem.W.kitOne K (.ref e14) (.ref e0) = some true)
    (xo14_1 : PySem.W.exmOne K (.ref e14) (.ref e0) = some true)
    (kt14_2 : PySem.W.kitOne K (.ref e14) (.ref e1) = some false)
    (xo14_2 : PySem.W.exmOne K (.ref e14) (.ref e1) = some false)
    (kt14_3 : PySem.W.kitOne K (.ref e14) (.ref e2) = some false)
    (xo14_3 : PySem.W.exmOne K (.ref e14) (.ref e2) = some false)
    (kt14_4 : PySem.W.kitOne K (.ref e14) (.ref e3) = some false)
    (xo14_4 : PySem.W.exmOne K (.ref e14) (.ref e3) = some false)
    (kt14_5 : PySem.W.kitOne K (.ref e14) (.ref e4) = some false)
    (xo14_5 : PySem.W.exmOne K (.ref e14) (.ref e4) = some false)
    (kt14_6 : PySem.W.kitOne K (.ref e14) (.ref e5) = some false)
    (xo14_6 : PySem.W.exmOne K (.ref e14) (.ref e5) = some false)
    (kt14_7 : PySem.W.kitOne K (.ref e14) (.ref e6) = some false)
    (xo14_7 : PySem.W.exmOne K (.ref e14) (.ref e6) = some false)
    (kt14_8 : PySem.W.kitOne K (.ref e14) (.ref e7) = some false)
    (xo14_8 : PySem.W.exmOne K (.ref e14) (.ref e7) = some false)
    (kt14_9 : PySem.W.kitOne K (.ref e14) (.ref e8) = some false)
    (xo14_9 : PySem.W.exmOne K (.ref e14) (.ref e8) = some false)
    (kt14_10 : PySem.W.kitOne K (.ref e14) (.ref e9) = some false)
    (xo14_10 : PySem.W.exmOne K (.ref e14) (.ref e9) = some false)
    (kt14_11 : PySem.W.kitOne K (.ref e14) (.ref e10) = some false)
    (xo14_11 : PySem.W.exmOne K (.ref e14) (.ref e10) = some false)
    (kt14_12 : PySem.W.kitOne K (.ref e14) (.ref e11) = some false)
    (xo14_12 : PySem.W.exmOne K (.ref e14) (.ref e11) = some false)
    (kt14_13 : PySem.W.kitOne K (.ref e14) (.ref e12) = some false)
    (xo14_13 : PySem.W.exmOne K (.ref e14) (.ref e12) = some false)
    (kt14_14 : PySem.W.kitOne K (.ref e14) (.ref e13) = some false)
    (xo14_14 : PySem.W.exmOne K (.ref e14) (.ref e13) = some false)
    (kt14_15 : PySem.W.kitOne K (.ref e14) (.ref e14) = some true)
    (xo14_15 : PySem.W.exmOne K (.ref e14) (.ref e14) = some true)
    (kt14_16 : PySem.W.kitOne K (.ref e14) (.ref e15) = some false)
    (xo14_16 : PySem.W.exmOne K (.ref e14) (.ref e15) = some false)
    (kt14_17 : PySem.W.kitOne K (.ref e14) (.ref e16) = some false)
    (xo14_17 : PySem.W.exmOne K (.ref e14) (.ref e16) = some false)
    (xg15 : PySem.W.findIn K (.ref e15) (Str.ofString "__getattribute__") = some (some (.builtin "BaseException.__getattribute__")))
    (xk15 : PySem.W.findIn K (.ref e15) (Str.ofString "__getattr__") = some none)
    (xs15 : PySem.W.subIn K (.ref e15) (.type "BaseException") = some true)
    (xd15 : PySem.W.hasDictIn K e15 = true)
    (xa15 : PySem.W.findIn K (.ref e15) (Str.ofString "__class__") = some (some (.builtin "object.__class__")))
    (xm15 : PySem.W.mroIn K e15 (.type "object") = some true)
    (fa15 : PySem.W.findIn K (.ref e15) (Str.ofString "at") = some none)
    (fp15 : PySem.W.findIn K (.ref e15) (Str.ofString "part") = some none)
    (rk15 : PySem.W.keepIn K (.ref e15) = true)
    (rt15 : PySem.W.typeIn K (.ref e15) = some (.type "type"))
    (sa15 : PySem.W.findIn K (.ref e15) (Str.ofString "__setattr__") = some (some (.builtin "object.__setattr__")))
    (in15 : PySem.W.findIn K (.ref e15) (Str.ofString "__init__") = some (some (.ref g15)))
    (it15 : PySem.W.typeIn K (.ref g15) = some (.type "function"))
    (il15 : K.lookup g15 = some ⟨ioc15, iod15, .func (PySem.W.fnOf (Str.ofString "__init__") (Str.ofString "NoPairs.__init__") (defArgs sI15) (defBody sI15) (defScope sI15) .none ikV15 idc15 ipm15 ian15 icd15 ict15), isl15⟩)
    (ic15 : PySem.W.codeIn K icd15 (Str.ofString "NoPairs.__init__") = true)
    (ik15 : PySem.W.keepIn K (.ref g15) = true)
    (xl15 : K.lookup e15 = some (PySem.excClassObj jn15 jq15 e15 jN15 jb15 [.ref e0, .type "ValueError", .type "Exception", .type "BaseException", .type "object"] true js15 ju15 ja15 jc15 jd15 j0_15 j1_15 j2_15 j3_15 j5_15 "ValueError.__new__"))
    (kt15_0 : PySem.W.kitOne K (.ref e15) (.type "ValueError") = some true)
    (xo15_0 : PySem.W.exmOne K (.ref e15) (.type "ValueError") = some true)
    (kt15_1 : PySem.W.kitOne K (.ref e15) (.ref e0) = some true)
    (xo15_1 : PySem.W.exmOne K (.ref e15) (.ref e0) = some true)
    (kt15_2 : PySem.W.kitOne K (.ref e15) (.ref e1) = some false)
    (xo15_2 : PySem.W.exmOne K (.ref e15) (.ref e1) = some false)
    (kt15_3 : PySem.W.kitOne K (.ref e15) (.ref e2) = some false)
    (xo15_3 : PySem.W.exmOne K (.ref e15) (.ref e2) = some false)
    (kt15_4 : PySem.W.kitOne K (.ref e15) (.ref e3) = some false)
    (xo15_4 : PySem.W.exmOne K (.ref e15) (.ref e3) = some false)
    (kt15_5 : PySem.W.kitOne K (.ref e15) (.ref e4) = some false)
    (xo15_5 : PySem.W.exmOne K (.ref e15) (.ref e4) = some false)
    (kt15_6 : PySem.W.kitOne K (.ref e15) (.ref e5) = some false)
    (xo15_6 : PySem.W.exmOne K (.ref e15) (.ref e5) = some false)
    (kt15_7 : PySem.W.kitOne K (.ref e15) (.ref e6) = some false)
    (xo15_7 : PySem.W.exmOne K (.ref e15) (.ref e6) = some false)
    (kt15_8 : PySem.W.kitOne K (.ref e15) (.ref e7) = some false)
    (xo15_8 : PySem.W.exmOne K (.ref e15) (.ref e7) = some false)
    (kt15_9 : PySem.W.kitOne K (.ref e15) (.ref e8) = some false)
    (xo15_9 : PySem.W.exmOne K (.ref e15) (.ref e8) = some false)
    (kt15_10 : PySem.W.kitOne K (.ref e15) (.ref e9) = some false)
    (xo15_10 : PySem.W.exmOne K (.ref e15) (.ref e9) = some false)
    (kt15_11 : PySem.W.kitOne K (.ref e15) (.ref e10) = some false)
    (xo15_11 : PySem.W.exmOne K (.ref e15) (.ref e10) = some false)
    (kt15_12 : PySem.W.kitOne K (.ref e15) (.ref e11) = some false)
    (xo15_12 : PySem.W.exmOne K (.ref e15) (.ref e11) = some false)
    (kt15_13 : PySem.W.kitOne K (.ref e15) (.ref e12) = some false)
    (xo15_13 : PySem.W.exmOne K (.ref e15) (.ref e12) = some false)
    (kt15_14 : PySem.W.kitOne K (.ref e15) (.ref e13) = some false)
    (xo15_14 : PySem.W.exmOne K (.ref e15) (.ref e13) = some false)
    (kt15_15 : PySem.W.kitOne K (.ref e15) (.ref e14) = some false)
    (xo15_15 : PySem.W.exmOne K (.ref e15) (.ref e14) = some false)
    (kt15_16 : PySem.W.kitOne K (.ref e15) (.ref e15) = some true)
    (xo15_16 : PySem.W.exmOne K (.ref e15) (.ref e15) = some true)
    (kt15_17 : PySem.W.kitOne K (.ref e15) (.ref e16) = some false)
    (xo15_17 : PySem.W.exmOne K (.ref e15) (.ref e16) = some false)
    (xg16 : PySem.W.findIn K (.ref e16) (Str.ofString "__getattribute__") = some (some (.builtin "BaseException.__getattribute__")))
    (xk16 : PySem.W.findIn K (.ref e16) (Str.ofString "__getattr__") = some none)
    (xs16 : PySem.W.subIn K (.ref e16) (.type "BaseException") = some true)
    (xd16 : PySem.W.hasDictIn K e16 = true)
    (xa16 : PySem.W.findIn K (.ref e16) (Str.ofString "__class__") = some (some (.builtin "object.__class__")))
    (xm16 : PySem.W.mroIn K e16 (.type "object") = some true)
    (fa16 : PySem.W.findIn K (.ref e16) (Str.ofString "at") = some none)
    (fp16 : PySem.W.findIn K (.ref e16) (Str.ofString "part") = some none)
    (rk16 : PySem.W.keepIn K (.ref e16) = true)
    (rt16 : PySem.W.typeIn K (.ref e16) = some (.type "type"))
    (sa16 : PySem.W.findIn K (.ref e16) (Str.ofString "__setattr__") = some (some (.builtin "object.__setattr__")))
    (in16 : PySem.W.findIn K (.ref e16) (Str.ofString "__init__") = some (some (.ref g16)))
    (it16 : PySem.W.typeIn K (.ref g16) = some (.type "function"))
    (il16 : K.lookup g16 = some ⟨ioc16, iod16, .func (PySem.W.fnOf (Str.ofString "__init__") (Str.ofString "NoMachine.__init__") (defArgs sI16) (defBody sI16) (defScope sI16) .none ikV16 idc16 ipm16 ian16 icd16 ict16), isl16⟩)
    (ic16 : PySem.W.codeIn K icd16 (Str.ofString "NoMachine.__init__") = true)
    (ik16 : PySem.W.keepIn K (.ref g16) = true)
    (xl16 : K.lookup e16 = some (PySem.excClassObj jn16 jq16 e16 jN16 jb16 [.ref e0, .type "ValueError", .type "Exception", .type "BaseException", .type "object"] true js16 ju16 ja16 jc16 jd16 j0_16 j1_16 j2_16 j3_16 j5_16 "ValueError.__new__"))
    (kt16_0 : PySem.W.kitOne K (.ref e16) (.type "ValueError") = some true)
    (xo16_0 : PySem.W.exmOne K (.ref e16) (.type "ValueError") = some true)
    (kt16_1 : PySem.W.kitOne K (.ref e16) (.ref e0) = some true)
    (xo16_1 : PySem.W.exmOne K (.ref e16) (.ref e0) = some true)
    (kt16_2 : PySem.W.kitOne K (.ref e16) (.ref e1) = some false)
    (xo16_2 : PySem.W.exmOne K (.ref e16) (.ref e1) = some false)
    (kt16_3 : PySem.W.kitOne K (.ref e16) (.ref e2) = some false)
    (xo16_3 : PySem.W.exmOne K (.ref e16) (.ref e2) = some false)
    (kt16_4 : PySem.W.kitOne K (.ref e16) (.ref e3) = some false)
    (xo16_4 : PySem.W.exmOne K (.ref e16) (.ref e3) = some false)
    (kt16_5 : PySem.W.kitOne K (.ref e16) (.ref e4) = some false)
    (xo16_5 : PySem.W.exmOne K (.ref e16) (.ref e4) = some false)
    (kt16_6 : PySem.W.kitOne K (.ref e16) (.ref e5) = some false)
    (xo16_6 : PySem.W.exmOne K (.ref e16) (.ref e5) = some false)
    (kt16_7 : PySem.W.kitOne K (.ref e16) (.ref e6) = some false)
    (xo16_7 : PySem.W.exmOne K (.ref e16) (.ref e6) = some false)
    (kt16_8 : PySem.W.kitOne K (.ref e16) (.ref e7) = some false)
    (xo16_8 : PySem.W.exmOne K (.ref e16) (.ref e7) = some false)
    (kt16_9 : PySem.W.kitOne K (.ref e16) (.ref e8) = some false)
    (xo16_9 : PySem.W.exmOne K (.ref e16) (.ref e8) = some false)
    (kt16_10 : PySem.W.kitOne K (.ref e16) (.ref e9) = some false)
    (xo16_10 : PySem.W.exmOne K (.ref e16) (.ref e9) = some false)
    (kt16_11 : PySem.W.kitOne K (.ref e16) (.ref e10) = some false)
    (xo16_11 : PySem.W.exmOne K (.ref e16) (.ref e10) = some false)
    (kt16_12 : PySem.W.kitOne K (.ref e16) (.ref e11) = some false)
    (xo16_12 : PySem.W.exmOne K (.ref e16) (.ref e11) = some false)
    (kt16_13 : PySem.W.kitOne K (.ref e16) (.ref e12) = some false)
    (xo16_13 : PySem.W.exmOne K (.ref e16) (.ref e12) = some false)
    (kt16_14 : PySem.W.kitOne K (.ref e16) (.ref e13) = some false)
    (xo16_14 : PySem.W.exmOne K (.ref e16) (.ref e13) = some false)
    (kt16_15 : PySem.W.kitOne K (.ref e16) (.ref e14) = some false)
    (xo16_15 : PySem.W.exmOne K (.ref e16) (.ref e14) = some false)
    (kt16_16 : PySem.W.kitOne K (.ref e16) (.ref e15) = some false)
    (xo16_16 : PySem.W.exmOne K (.ref e16) (.ref e15) = some false)
    (kt16_17 : PySem.W.kitOne K (.ref e16) (.ref e16) = some true)
    (xo16_17 : PySem.W.exmOne K (.ref e16) (.ref e16) = some true)
    (xn : PySem.W.specialIn K (.builtin "object.__class__") (Str.ofString "__get__") = some (some (.builtin "getset_descriptor.__get__")))
    (xt : PySem.W.takesIn K (.builtin "object.__class__") = some true)
    (ty0_0 : PySem.W.kitOne K (.type "NoneType") (.type "ValueError") = some false)
    (ty1_0 : PySem.W.kitOne K (.type "bool") (.type "ValueError") = some false)
    (ty2_0 : PySem.W.kitOne K (.type "int") (.type "ValueError") = some false)
    (ty3_0 : PySem.W.kitOne K (.type "str") (.type "ValueError") = some false)
    (ty4_0 : PySem.W.kitOne K (.type "list") (.type "ValueError") = some false)
    (ty5_0 : PySem.W.kitOne K (.type "tuple") (.type "ValueError") = some false)
    (ty0_1 : PySem.W.kitOne K (.type "NoneType") (.ref e0) = some false)
    (ty1_1 : PySem.W.kitOne K (.type "bool") (.ref e0) = some false)
    (ty2_1 : PySem.W.kitOne K (.type "int") (.ref e0) = some false)
    (ty3_1 : PySem.W.kitOne K (.type "str") (.ref e0) = some false)
    (ty4_1 : PySem.W.kitOne K (.type "list") (.ref e0) = some false)
    (ty5_1 : PySem.W.kitOne K (.type "tuple") (.ref e0) = some false)
    (ty0_2 : PySem.W.kitOne K (.type "NoneType") (.ref e1) = some false)
    (ty1_2 : PySem.W.kitOne K (.type "bool") (.ref e1) = some false)
    (ty2_2 : PySem.W.kitOne K (.type "int") (.ref e1) = some false)
    (ty3_2 : PySem.W.kitOne K (.type "str") (.ref e1) = some false)
    (ty4_2 : PySem.W.kitOne K (.type "list") (.ref e1) = some false)
    (ty5_2 : PySem.W.kitOne K (.type "tuple") (.ref e1) = some false)
    (ty0_3 : PySem.W.kitOne K (.type "NoneType") (.ref e2) = some false)
    (ty1_3 : PySem.W.kitOne K (.type "bool") (.ref e2) = some false)
    (ty2_3 : PySem.W.kitOne K (.type "int") (.ref e2) = some false)
    (ty3_3 : PySem.W.kitOne K (.type "str") (.ref e2) = some false)
    (ty4_3 : PySem.W.kitOne K (.type "list") (.ref e2) = some false)
    (ty5_3 : PySem.W.kitOne K (.type "tuple") (.ref e2) = some false)
    (ty0_4 : PySem.W.kitOne K (.type "NoneType") (.ref e3) = some false)
    (ty1_4 : PySem.W.kitOne K (.type "bool") (.ref e3) = some false)
    (ty2_4 : PySem.W.kitOne K (.type "int") (.ref e3) = some false)
    (ty3_4 : PySem.W.kitOne K (.type "str") (.ref e3) = some false)
    (ty4_4 : PySem.W.kitOne K (.type "list") (.ref e3) = some false)
    (ty5_4 : PySem.W.kitOne K (.type "tuple") (.ref e3) = some false)
    (ty0_5 : PySem.W.kitOne K (.type "NoneType") (.ref e4) = some false)
    (ty1_5 : PySem.W.kitOne K (.type "bool") (.ref e4) = some false)
    (ty2_5 : PySem.W.kitOne K (.type "int") (.ref e4) = some false)
    (ty3_5 : PySem.W.kitOne K (.type "str") (.ref e4) = some false)
    (ty4_5 : PySem.W.kitOne K (.type "list") (.ref e4) = some false)
    (ty5_5 : PySem.W.kitOne K (.type "tuple") (.ref e4) = some false)
    (ty0_6 : PySem.W.kitOne K (.type "NoneType") (.ref e5) = some false)
    (ty1_6 : PySem.W.kitOne K (.type "bool") (.ref e5) = some false)
    (ty2_6 : PySem.W.kitOne K (.type "int") (.ref e5) = some false)
    (ty3_6 : PySem.W.kitOne K (.type "str") (.ref e5) = some false)
    (ty4_6 : PySem.W.kitOne K (.type "list") (.ref e5) = some false)
    (ty5_6 : PySem.W.kitOne K (.type "tuple") (.ref e5) = some false)
    (ty0_7 : PySem.W.kitOne K (.type "NoneType") (.ref e6) = some false)
    (ty1_7 : PySem.W.kitOne K (.type "bool") (.ref e6) = some false)
    (ty2_7 : PySem.W.kitOne K (.type "int") (.ref e6) = some false)
    (ty3_7 : PySem.W.kitOne K (.type "str") (.ref e6) = some false)
    (ty4_7 : PySem.W.kitOne K (.type "list") (.ref e6) = some false)
    (ty5_7 : PySem.W.kitOne K (.type "tuple") (.ref e6) = some false)
    (ty0_8 : PySem.W.kitOne K (.type "NoneType") (.ref e7) = some false)
    (ty1_8 : PySem.W.kitOne K (.type "bool") (.ref e7) = some false)
    (ty2_8 : PySem.W.kitOne K (.type "int") (.ref e7) = some false)
    (ty3_8 : PySem.W.kitOne K (.type "str") (.ref e7) = some false)
    (ty4_8 : PySem.W.kitOne K (.type "list") (.ref e7) = some false)
    (ty5_8 : PySem.W.kitOne K (.type "tuple") (.ref e7) = some false)
    (ty0_9 : PySem.W.kitOne K (.type "NoneType") (.ref e8) = some false)
    (ty1_9 : PySem.W.kitOne K (.type "bool") (.ref e8) = some false)
    (ty2_9 : PySem.W.kitOne K (.type "int") (.ref e8) = some false)
    (ty3_9 : PySem.W.kitOne K (.type "str") (.ref e8) = some false)
    (ty4_9 : PySem.W.kitOne K (.type "list") (.ref e8) = some false)
    (ty5_9 : PySem.W.kitOne K (.type "tuple") (.ref e8) = some false)
    (ty0_10 : PySem.W.kitOne K (.type "NoneType") (.ref e9) = some false)
    (ty1_10 : PySem.W.kitOne K (.type "bool") (.ref e9) = some false)
    (ty2_10 : PySem.W.kitOne K (.type "int") (.ref e9) = some false)
    (ty3_10 : PySem.W.kitOne K (.type "str") (.ref e9) = some false)
    (ty4_10 : PySem.W.kitOne K (.type "list") (.ref e9) = some false)
    (ty5_10 : PySem.W.kitOne K (.type "tuple") (.ref e9) = some false)
    (ty0_11 : PySem.W.kitOne K (.type "NoneType") (.ref e10) = some false)
    (ty1_11 : PySem.W.kitOne K (.type "bool") (.ref e10) = some false)
    (ty2_11 : PySem.W.kitOne K (.type "int") (.ref e10) = some false)
    (ty3_11 : PySem.W.kitOne K (.type "str") (.ref e10) = some false)
    (ty4_11 : PySem.W.kitOne K (.type "list") (.ref e10) = some false)
    (ty5_11 : PySem.W.kitOne K (.type "tuple") (.ref e10) = some false)
    (ty0_12 : PySem.W.kitOne K (.type "NoneType") (.ref e11) = some false)
    (ty1_12 : PySem.W.kitOne K (.type "bool") (.ref e11) = some false)
    (ty2_12 : PySem.W.kitOne K (.type "int") (.ref e11) = some false)
    (ty3_12 : PySem.W.kitOne K (.type "str") (.ref e11) = some false)
    (ty4_12 : PySem.W.kitOne K (.type "list") (.ref e11) = some false)
    (ty5_12 : PySem.W.kitOne K (.type "tuple") (.ref e11) = some false)
    (ty0_13 : PySem.W.kitOne K (.type "NoneType") (.ref e12) = some false)
    (ty1_13 : PySem.W.kitOne K (.type "bool") (.ref e12) = some false)
    (ty2_13 : PySem.W.kitOne K (.type "int") (.ref e12) = some false)
    (ty3_13 : PySem.W.kitOne K (.type "str") (.ref e12) = some false)
    (ty4_13 : PySem.W.kitOne K (.type "list") (.ref e12) = some false)
    (ty5_13 : PySem.W.kitOne K (.type "tuple") (.ref e12) = some false)
    (ty0_14 : PySem.W.kitOne K (.type "NoneType") (.ref e13) = some false)
    (ty1_14 : PySem.W.kitOne K (.type "bool") (.ref e13) = some false)
    (ty2_14 : PySem.W.kitOne K (.type "int") (.ref e13) = some false)
    (ty3_14 : PySem.W.kitOne K (.type "str") (.ref e13) = some false)
    (ty4_14 : PySem.W.kitOne K (.type "list") (.ref e13) = some false)
    (ty5_14 : PySem.W.kitOne K (.type "tuple") (.ref e13) = some false)
    (ty0_15 : PySem.W.kitOne K (.type "NoneType") (.ref e14) = some false)
    (ty1_15 : PySem.W.kitOne K (.type "bool") (.ref e14) = some false)
    (ty2_15 : PySem.W.kitOne K (.type "int") (.ref e14) = some false)
    (ty3_15 : PySem.W.kitOne K (.type "str") (.ref e14) = some false)
    (ty4_15 : PySem.W.kitOne K (.type "list") (.ref e14) = some false)
    (ty5_15 : PySem.W.kitOne K (.type "tuple") (.ref e14) = some false)
    (ty0_16 : PySem.W.kitOne K (.type "NoneType") (.ref e15) = some false)
    (ty1_16 : PySem.W.kitOne K (.type "bool") (.ref e15) = some false)
    (ty2_16 : PySem.W.kitOne K (.type "int") (.ref e15) = some false)
    (ty3_16 : PySem.W.kitOne K (.type "str") (.ref e15) = some false)
    (ty4_16 : PySem.W.kitOne K (.type "list") (.ref e15) = some false)
    (ty5_16 : PySem.W.kitOne K (.type "tuple") (.ref e15) = some false)
    (ty0_17 : PySem.W.kitOne K (.type "NoneType") (.ref e16) = some false)
    (ty1_17 : PySem.W.kitOne K (.type "bool") (.ref e16) = some false)
    (ty2_17 : PySem.W.kitOne K (.type "int") (.ref e16) = some false)
    (ty3_17 : PySem.W.kitOne K (.type "str") (.ref e16) = some false)
    (ty4_17 : PySem.W.kitOne K (.type "list") (.ref e16) = some false)
    (ty5_17 : PySem.W.kitOne K (.type "tuple") (.ref e16) = some false)
    (br : PySem.W.readsIn K e0 (.type "type") = true)
    (bi : PySem.W.findCls K (.ref e0) (.type "type") (Str.ofString "__init__") = some (.val (.builtin "ValueError.__init__")))
    (bg : PySem.W.specialIn K (.ref e0) (Str.ofString "__getattribute__") = some (some (.builtin "type.__getattribute__")))
    (zV : PySem.W.nsIn K mainGlobals (Str.ofString "ValueError") = some none)
    (z0 : PySem.W.nsIn K mainGlobals (Str.ofString "len") = some none)
    (z1 : PySem.W.nsIn K mainGlobals (Str.ofString "max") = some none)
    (z2 : PySem.W.nsIn K mainGlobals (Str.ofString "min") = some none)
    (z3 : PySem.W.nsIn K mainGlobals (Str.ofString "list") = some none)
    (z4 : PySem.W.nsIn K mainGlobals (Str.ofString "tuple") = some none)
    (z5 : PySem.W.nsIn K mainGlobals (Str.ofString "int") = some none)
    (z6 : PySem.W.nsIn K mainGlobals (Str.ofString "range") = some none)
    (z7 : PySem.W.nsIn K mainGlobals (Str.ofString "sorted") = some none)
    (z8 : PySem.W.nsIn K mainGlobals (Str.ofString "isinstance") = some none)
    (z9 : PySem.W.nsIn K mainGlobals (Str.ofString "bool") = some none)
    (z10 : PySem.W.nsIn K mainGlobals (Str.ofString "str") = some none)
    (z11 : PySem.W.nsIn K mainGlobals (Str.ofString "dict") = some none)
    (z12 : PySem.W.nsIn K mainGlobals (Str.ofString "sum") = some none)
    (z13 : PySem.W.nsIn K mainGlobals (Str.ofString "zip") = some none)
    (z14 : PySem.W.nsIn K mainGlobals (Str.ofString "enumerate") = some none)
    (z15 : PySem.W.nsIn K mainGlobals (Str.ofString "all") = some none)
    (z16 : PySem.W.nsIn K mainGlobals (Str.ofString "any") = some none)
    (z17 : PySem.W.nsIn K mainGlobals (Str.ofString "repr") = some none)
    : ∃ fd : FuncData, (∀ (s : Shared) (v : Value), BindsTo s fd ⟨[v], []⟩ [((Str.ofString "_law_script"), v)]) ∧ ∀ base : Heap, K.In base → base.Ns mainGlobals mg → FnG l.prog w K mg base (L2.CX l.prog w) 42 fa fd [(Str.ofString "_law_script")] (@spF (ers K) K (run FU T 40 5)) := by
  letI : Errs := ers K
  have d0 : Errs.ca 0 = e0 := by show ad K (Str.ofString "LotError") = e0; unfold ad; rw [ea0]
  have d1 : Errs.ca 1 = e1 := by show ad K (Str.ofString "NoNumber") = e1; unfold ad; rw [ea1]
  have d2 : Errs.ca 2 = e2 := by show ad K (Str.ofString "NoLot") = e2; unfold ad; rw [ea2]
  have d3 : Errs.ca 3 = e3 := by show ad K (Str.ofString "NoSize") = e3; unfold ad; rw [ea3]
  have d4 : Errs.ca 4 = e4 := by show ad K (Str.ofString "NoNames") = e4; unfold ad; rw [ea4]
  have d5 : Errs.ca 5 = e5 := by show ad K (Str.ofString "TooMany") = e5; unfold ad; rw [ea5]
  have d6 : Errs.ca 6 = e6 := by show ad K (Str.ofString "NoWeb") = e6; unfold ad; rw [ea6]
  have d7 : Errs.ca 7 = e7 := by show ad K (Str.ofString "NoPlan") = e7; unfold ad; rw [ea7]
  have d8 : Errs.ca 8 = e8 := by show ad K (Str.ofString "Twice") = e8; unfold ad; rw [ea8]
  have d9 : Errs.ca 9 = e9 := by show ad K (Str.ofString "NoMove") = e9; unfold ad; rw [ea9]
  have d10 : Errs.ca 10 = e10 := by show ad K (Str.ofString "NoText") = e10; unfold ad; rw [ea10]
  have d11 : Errs.ca 11 = e11 := by show ad K (Str.ofString "NoRow") = e11; unfold ad; rw [ea11]
  have d12 : Errs.ca 12 = e12 := by show ad K (Str.ofString "NoName") = e12; unfold ad; rw [ea12]
  have d13 : Errs.ca 13 = e13 := by show ad K (Str.ofString "Unlike") = e13; unfold ad; rw [ea13]
  have d14 : Errs.ca 14 = e14 := by show ad K (Str.ofString "NoFamily") = e14; unfold ad; rw [ea14]
  have d15 : Errs.ca 15 = e15 := by show ad K (Str.ofString "NoPairs") = e15; unfold ad; rw [ea15]
  have d16 : Errs.ca 16 = e16 := by show ad K (Str.ofString "NoMachine") = e16; unfold ad; rw [ea16]
  have exs : ∀ c, c ∈ Errs.has → ExcC K (Errs.ca c) := by
    intro c h
    have h : c ∈ ([0, 1, 2, 3, 4, 5, 6, 7, 8, 9, 10, 11, 12, 13, 14, 15, 16] : List Nat) := h
    simp only [List.mem_cons, List.not_mem_nil, or_false] at h
    rcases h with rfl | rfl | rfl | rfl | rfl | rfl | rfl | rfl | rfl | rfl | rfl | rfl | rfl | rfl | rfl | rfl | rfl
    · rw [d0]; exact ⟨xg0, xk0, xs0, xd0, xa0, xn, xt, xm0⟩
    · rw [d1]; exact ⟨xg1, xk1, xs1, xd1, xa1, xn, xt, xm1⟩
    · rw [d2]; exact ⟨xg2, xk2, xs2, xd2, xa2, xn, xt, xm2⟩
    · rw [d3]; exact ⟨xg3, xk3, xs3, xd3, xa3, xn, xt, xm3⟩
    · rw [d4]; exact ⟨xg4, xk4, xs4, xd4, xa4, xn, xt, xm4⟩
    · rw [d5]; exact ⟨xg5, xk5, xs5, xd5, xa5, xn, xt, xm5⟩
    · rw [d6]; exact ⟨xg6, xk6, xs6, xd6, xa6, xn, xt, xm6⟩
    · rw [d7]; exact ⟨xg7, xk7, xs7, xd7, xa7, xn, xt, xm7⟩
    · rw [d8]; exact ⟨xg8, xk8, xs8, xd8, xa8, xn, xt, xm8⟩
    · rw [d9]; exact ⟨xg9, xk9, xs9, xd9, xa9, xn, xt, xm9⟩
    · rw [d10]; exact ⟨xg10, xk10, xs10, xd10, xa10, xn, xt, xm10⟩
    · rw [d11]; exact ⟨xg11, xk11, xs11, xd11, xa11, xn, xt, xm11⟩
    · rw [d12]; exact ⟨xg12, xk12, xs12, xd12, xa12, xn, xt, xm12⟩
    · rw [d13]; exact ⟨xg13, xk13, xs13, xd13, xa13, xn, xt, xm13⟩
    · rw [d14]; exact ⟨xg14, xk14, xs14, xd14, xa14, xn, xt, xm14⟩
    · rw [d15]; exact ⟨xg15, xk15, xs15, xd15, xa15, xn, xt, xm15⟩
    · rw [d16]; exact ⟨xg16, xk16, xs16, xd16, xa16, xn, xt, xm16⟩
  have flds : ∀ c, c ∈ Errs.has → ∀ f ∈ ["at", "part"], PySem.W.findIn K (.ref (Errs.ca c)) (Str.ofString f) = some none := by
    intro c h f hf
    simp only [List.mem_cons, List.not_mem_nil, or_false] at hf
    have h : c ∈ ([0, 1, 2, 3, 4, 5, 6, 7, 8, 9, 10, 11, 12, 13, 14, 15, 16] : List Nat) := h
    simp only [List.mem_cons, List.not_mem_nil, or_false] at h
    rcases h with rfl | rfl | rfl | rfl | rfl | rfl | rfl | rfl | rfl | rfl | rfl | rfl | rfl | rfl | rfl | rfl | rfl
    · rw [d0]; rcases hf with rfl | rfl <;> first | exact fa0 | exact fp0
    · rw [d1]; rcases hf with rfl | rfl <;> first | exact fa1 | exact fp1
    · rw [d2]; rcases hf with rfl | rfl <;> first | exact fa2 | exact fp2
    · rw [d3]; rcases hf with rfl | rfl <;> first | exact fa3 | exact fp3
    · rw [d4]; rcases hf with rfl | rfl <;> first | exact fa4 | exact fp4
    · rw [d5]; rcases hf with rfl | rfl <;> first | exact fa5 | exact fp5
    · rw [d6]; rcases hf with rfl | rfl <;> first | exact fa6 | exact fp6
    · rw [d7]; rcases hf with rfl | rfl <;> first | exact fa7 | exact fp7
    · rw [d8]; rcases hf with rfl | rfl <;> first | exact fa8 | exact fp8
    · rw [d9]; rcases hf with rfl | rfl <;> first | exact fa9 | exact fp9
    · rw [d10]; rcases hf with rfl | rfl <;> first | exact fa10 | exact fp10
    · rw [d11]; rcases hf with rfl | rfl <;> first | exact fa11 | exact fp11
    · rw [d12]; rcases hf with rfl | rfl <;> first | exact fa12 | exact fp12
    · rw [d13]; rcases hf with rfl | rfl <;> first | exact fa13 | exact fp13
    · rw [d14]; rcases hf with rfl | rfl <;> first | exact fa14 | exact fp14
    · rw [d15]; rcases hf with rfl | rfl <;> first | exact fa15 | exact fp15
    · rw [d16]; rcases hf with rfl | rfl <;> first | exact fa16 | exact fp16
  have ck0 : ClsK K (.type "ValueError") [0, 1, 2, 3, 4, 5, 6, 7, 8, 9, 10, 11, 12, 13, 14, 15, 16] := by
    refine ⟨fun c h => ?_, fun t ht => ?_⟩
    · have h : c ∈ ([0, 1, 2, 3, 4, 5, 6, 7, 8, 9, 10, 11, 12, 13, 14, 15, 16] : List Nat) := h
      simp only [List.mem_cons, List.not_mem_nil, or_false] at h
      rcases h with rfl | rfl | rfl | rfl | rfl | rfl | rfl | rfl | rfl | rfl | rfl | rfl | rfl | rfl | rfl | rfl | rfl
      · rw [d0]; exact kt0_0
      · rw [d1]; exact kt1_0
      · rw [d2]; exact kt2_0
      · rw [d3]; exact kt3_0
      · rw [d4]; exact kt4_0
      · rw [d5]; exact kt5_0
      · rw [d6]; exact kt6_0
      · rw [d7]; exact kt7_0
      · rw [d8]; exact kt8_0
      · rw [d9]; exact kt9_0
      · rw [d10]; exact kt10_0
      · rw [d11]; exact kt11_0
      · rw [d12]; exact kt12_0
      · rw [d13]; exact kt13_0
      · rw [d14]; exact kt14_0
      · rw [d15]; exact kt15_0
      · rw [d16]; exact kt16_0
    · simp only [tys, List.mem_cons, List.not_mem_nil, or_false] at ht
      rcases ht with rfl | rfl | rfl | rfl | rfl | rfl <;> first | exact ty0_0 | exact ty1_0 | exact ty2_0 | exact ty3_0 | exact ty4_0 | exact ty5_0
  have cx0 : ∀ c, c ∈ Errs.has → PySem.W.exmOne K (.ref (Errs.ca c)) (.type "ValueError") = some (decide (c ∈ ([0, 1, 2, 3, 4, 5, 6, 7, 8, 9, 10, 11, 12, 13, 14, 15, 16] : List Nat))) := by
    intro c h
    have h : c ∈ ([0, 1, 2, 3, 4, 5, 6, 7, 8, 9, 10, 11, 12, 13, 14, 15, 16] : List Nat) := h
    simp only [List.mem_cons, List.not_mem_nil, or_false] at h
    rcases h with rfl | rfl | rfl | rfl | rfl | rfl | rfl | rfl | rfl | rfl | rfl | rfl | rfl | rfl | rfl | rfl | rfl
    · rw [d0]; exact xo0_0
    · rw [d1]; exact xo1_0
    · rw [d2]; exact xo2_0
    · rw [d3]; exact xo3_0
    · rw [d4]; exact xo4_0
    · rw [d5]; exact xo5_0
    · rw [d6]; exact xo6_0
    · rw [d7]; exact xo7_0
    · rw [d8]; exact xo8_0
    · rw [d9]; exact xo9_0
    · rw [d10]; exact xo10_0
    · rw [d11]; exact xo11_0
    · rw [d12]; exact xo12_0
    · rw [d13]; exact xo13_0
    · rw [d14]; exact xo14_0
    · rw [d15]; exact xo15_0
    · rw [d16]; exact xo16_0
  have ck1 : ClsK K (.ref e0) [0, 1, 2, 3, 4, 5, 6, 7, 8, 9, 10, 11, 12, 13, 14, 15, 16] := by
    refine ⟨fun c h => ?_, fun t ht => ?_⟩
    · have h : c ∈ ([0, 1, 2, 3, 4, 5, 6, 7, 8, 9, 10, 11, 12, 13, 14, 15, 16] : List Nat) := h
      simp only [List.mem_cons, List.not_mem_nil, or_false] at h
      rcases h with rfl | rfl | rfl | rfl | rfl | rfl | rfl | rfl | rfl | rfl | rfl | rfl | rfl | rfl | rfl | rfl | rfl
      · rw [d0]; exact kt0_1
      · rw [d1]; exact kt1_1
      · rw [d2]; exact kt2_1
      · rw [d3]; exact kt3_1
      · rw [d4]; exact kt4_1
      · rw [d5]; exact kt5_1
      · rw [d6]; exact kt6_1
      · rw [d7]; exact kt7_1
      · rw [d8]; exact kt8_1
      · rw [d9]; exact kt9_1
      · rw [d10]; exact kt10_1
      · rw [d11]; exact kt11_1
      · rw [d12]; exact kt12_1
      · rw [d13]; exact kt13_1
      · rw [d14]; exact kt14_1
      · rw [d15]; exact kt15_1
      · rw [d16]; exact kt16_1
    · simp only [tys, List.mem_cons, List.not_mem_nil, or_false] at ht
      rcases ht with rfl | rfl | rfl | rfl | rfl | rfl <;> first | exact ty0_1 | exact ty1_1 | exact ty2_1 | exact ty3_1 | exact ty4_1 | exact ty5_1
  have cx1 : ∀ c, c ∈ Errs.has → PySem.W.exmOne K (.ref (Errs.ca c)) (.ref e0) = some (decide (c ∈ ([0, 1, 2, 3, 4, 5, 6, 7, 8, 9, 10, 11, 12, 13, 14, 15, 16] : List Nat))) := by
    intro c h
    have h : c ∈ ([0, 1, 2, 3, 4, 5, 6, 7, 8, 9, 10, 11, 12, 13, 14, 15, 16] : List Nat) := h
    simp only [List.mem_cons, List.not_mem_nil, or_false] at h
    rcases h with rfl | rfl | rfl | rfl | rfl | rfl | rfl | rfl | rfl | rfl | rfl | rfl | rfl | rfl | rfl | rfl | rfl
    · rw [d0]; exact xo0_1
    · rw [d1]; exact xo1_1
    · rw [d2]; exact xo2_1
    · rw [d3]; exact xo3_1
    · rw [d4]; exact xo4_1
    · rw [d5]; exact xo5_1
    · rw [d6]; exact xo6_1
    · rw [d7]; exact xo7_1
    · rw [d8]; exact xo8_1
    · rw [d9]; exact xo9_1
    · rw [d10]; exact xo10_1
    · rw [d11]; exact xo11_1
    · rw [d12]; exact xo12_1
    · rw [d13]; exact xo13_1
    · rw [d14]; exact xo14_1
    · rw [d15]; exact xo15_1
    · rw [d16]; exact xo16_1
  have ck2 : ClsK K (.ref e1) [1] := by
    refine ⟨fun c h => ?_, fun t ht => ?_⟩
    · have h : c ∈ ([0, 1, 2, 3, 4, 5, 6, 7, 8, 9, 10, 11, 12, 13, 14, 15, 16] : List Nat) := h
      simp only [List.mem_cons, List.not_mem_nil, or_false] at h
      rcases h with rfl | rfl | rfl | rfl | rfl | rfl | rfl | rfl | rfl | rfl | rfl | rfl | rfl | rfl | rfl | rfl | rfl
      · rw [d0]; exact kt0_2
      · rw [d1]; exact kt1_2
      · rw [d2]; exact kt2_2
      · rw [d3]; exact kt3_2
      · rw [d4]; exact kt4_2
      · rw [d5]; exact kt5_2
      · rw [d6]; exact kt6_2
      · rw [d7]; exact kt7_2
      · rw [d8]; exact kt8_2
      · rw [d9]; exact kt9_2
      · rw [d10]; exact kt10_2
      · rw [d11]; exact kt11_2
      · rw [d12]; exact kt12_2
      · rw [d13]; exact kt13_2
      · rw [d14]; exact kt14_2
      · rw [d15]; exact kt15_2
      · rw [d16]; exact kt16_2
    · simp only [tys, List.mem_cons, List.not_mem_nil, or_false] at ht
      rcases ht with rfl | rfl | rfl | rfl | rfl | rfl <;> first | exact ty0_2 | exact ty1_2 | exact ty2_2 | exact ty3_2 | exact ty4_2 | exact ty5_2
  have cx2 : ∀ c, c ∈ Errs.has → PySem.W.exmOne K (.ref (Errs.ca c)) (.ref e1) = some (decide (c ∈ ([1] : List Nat))) := by
    intro c h
    have h : c ∈ ([0, 1, 2, 3, 4, 5, 6, 7, 8, 9, 10, 11, 12, 13, 14, 15, 16] : List Nat) := h
    simp only [List.mem_cons, List.not_mem_nil, or_false] at h
    rcases h with rfl | rfl | rfl | rfl | rfl | rfl | rfl | rfl | rfl | rfl | rfl | rfl | rfl | rfl | rfl | rfl | rfl
    · rw [d0]; exact xo0_2
    · rw [d1]; exact xo1_2
    · rw [d2]; exact xo2_2
    · rw [d3]; exact xo3_2
    · rw [d4]; exact xo4_2
    · rw [d5]; exact xo5_2
    · rw [d6]; exact xo6_2
    · rw [d7]; exact xo7_2
    · rw [d8]; exact xo8_2
    · rw [d9]; exact xo9_2
    · rw [d10]; exact xo10_2
    · rw [d11]; exact xo11_2
    · rw [d12]; exact xo12_2
    · rw [d13]; exact xo13_2
    · rw [d14]; exact xo14_2
    · rw [d15]; exact xo15_2
    · rw [d16]; exact xo16_2
  have ck3 : ClsK K (.ref e2) [2] := by
    refine ⟨fun c h => ?_, fun t ht => ?_⟩
    · have h : c ∈ ([0, 1, 2, 3, 4, 5, 6, 7, 8, 9, 10, 11, 12, 13, 14, 15, 16] : List Nat) := h
      simp only [List.mem_cons, List.not_mem_nil, or_false] at h
      rcases h with rfl | rfl | rfl | rfl | rfl | rfl | rfl | rfl | rfl | rfl | rfl | rfl | rfl | rfl | rfl | rfl | rfl
      · rw [d0]; exact kt0_3
      · rw [d1]; exact kt1_3
      · rw [d2]; exact kt2_3
      · rw [d3]; exact kt3_3
      · rw [d4]; exact kt4_3
      · rw [d5]; exact kt5_3
      · rw [d6]; exact kt6_3
      · rw [d7]; exact kt7_3
      · rw [d8]; exact kt8_3
      · rw [d9]; exact kt9_3
      · rw [d10]; exact kt10_3
      · rw [d11]; exact kt11_3
      · rw [d12]; exact kt12_3
      · rw [d13]; exact kt13_3
      · rw [d14]; exact kt14_3
      · rw [d15]; exact kt15_3
      · rw [d16]; exact kt16_3
    · simp only [tys, List.mem_cons, List.not_mem_nil, or_false] at ht
      rcases ht with rfl | rfl | rfl | rfl | rfl | rfl <;> first | exact ty0_3 | exact ty1_3 | exact ty2_3 | exact ty3_3 | exact ty4_3 | exact ty5_3
  have cx3 : ∀ c, c ∈ Errs.has → PySem.W.exmOne K (.ref (Errs.ca c)) (.ref e2) = some (decide (c ∈ ([2] : List Nat))) := by
    intro c h
    have h : c ∈ ([0, 1, 2, 3, 4, 5, 6, 7, 8, 9, 10, 11, 12, 13, 14, 15, 16] : List Nat) := h
    simp only [List.mem_cons, List.not_mem_nil, or_false] at h
    rcases h with rfl | rfl | rfl | rfl | rfl | rfl | rfl | rfl | rfl | rfl | rfl | rfl | rfl | rfl | rfl | rfl | rfl
    · rw [d0]; exact xo0_3
    · rw [d1]; exact xo1_3
    · rw [d2]; exact xo2_3
    · rw [d3]; exact xo3_3
    · rw [d4]; exact xo4_3
    · rw [d5]; exact xo5_3
    · rw [d6]; exact xo6_3
    · rw [d7]; exact xo7_3
    · rw [d8]; exact xo8_3
    · rw [d9]; exact xo9_3
    · rw [d10]; exact xo10_3
    · rw [d11]; exact xo11_3
    · rw [d12]; exact xo12_3
    · rw [d13]; exact xo13_3
    · rw [d14]; exact xo14_3
    · rw [d15]; exact xo15_3
    · rw [d16]; exact xo16_3
  have ck4 : ClsK K (.ref e3) [3] := by
    refine ⟨fun c h => ?_, fun t ht => ?_⟩
    · have h : c ∈ ([0, 1, 2, 3, 4, 5, 6, 7, 8, 9, 10, 11, 12, 13, 14, 15, 16] : List Nat) := h
      simp only [List.mem_cons, List.not_mem_nil, or_false] at h
      rcases h with rfl | rfl | rfl | rfl | rfl | rfl | rfl | rfl | rfl | rfl | rfl | rfl | rfl | rfl | rfl | rfl | rfl
      · rw [d0]; exact kt0_4
      · rw [d1]; exact kt1_4
      · rw [d2]; exact kt2_4
      · rw [d3]; exact kt3_4
      · rw [d4]; exact kt4_4
      · rw [d5]; exact kt5_4
      · rw [d6]; exact kt6_4
      · rw [d7]; exact kt7_4
      · rw [d8]; exact kt8_4
      · rw [d9]; exact kt9_4
      · rw [d10]; exact kt10_4
      · rw [d11]; exact kt11_4
      · rw [d12]; exact kt12_4
      · rw [d13]; exact kt13_4
      · rw [d14]; exact kt14_4
      · rw [d15]; exact kt15_4
      · rw [d16]; exact kt16_4
    · simp only [tys, List.mem_cons, List.not_mem_nil, or_false] at ht
      rcases ht with rfl | rfl | rfl | rfl | rfl | rfl <;> first | exact ty0_4 | exact ty1_4 | exact ty2_4 | exact ty3_4 | exact ty4_4 | exact ty5_4
  have cx4 : ∀ c, c ∈ Errs.has → PySem.W.exmOne K (.ref (Errs.ca c)) (.ref e3) = some (decide (c ∈ ([3] : List Nat))) := by
    intro c h
    have h : c ∈ ([0, 1, 2, 3, 4, 5, 6, 7, 8, 9, 10, 11, 12, 13, 14, 15, 16] : List Nat) := h
    simp only [List.mem_cons, List.not_mem_nil, or_false] at h
    rcases h with rfl | rfl | rfl | rfl | rfl | rfl | rfl | rfl | rfl | rfl | rfl | rfl | rfl | rfl | rfl | rfl | rfl
    · rw [d0]; exact xo0_4
    · rw [d1]; exact xo1_4
    · rw [d2]; exact xo2_4
    · rw [d3]; exact xo3_4
    · rw [d4]; exact xo4_4
    · rw [d5]; exact xo5_4
    · rw [d6]; exact xo6_4
    · rw [d7]; exact xo7_4
    · rw [d8]; exact xo8_4
    · rw [d9]; exact xo9_4
    · rw [d10]; exact xo10_4
    · rw [d11]; exact xo11_4
    · rw [d12]; exact xo12_4
    · rw [d13]; exact xo13_4
    · rw [d14]; exact xo14_4
    · rw [d15]; exact xo15_4
    · rw [d16]; exact xo16_4
  have ck5 : ClsK K (.ref e4) [4] := by
    refine ⟨fun c h => ?_, fun t ht => ?_⟩
    · have h : c ∈ ([0, 1, 2, 3, 4, 5, 6, 7, 8, 9, 10, 11, 12, 13, 14, 15, 16] : List Nat) := h
      simp only [List.mem_cons, List.not_mem_nil, or_false] at h
      rcases h with rfl | rfl | rfl | rfl | rfl | rfl | rfl | rfl | rfl | rfl | rfl | rfl | rfl | rfl | rfl | rfl | rfl
      · rw [d0]; exact kt0_5
      · rw [d1]; exact kt1_5
      · rw [d2]; exact kt2_5
      · rw [d3]; exact kt3_5
      · rw [d4]; exact kt4_5
      · rw [d5]; exact kt5_5
      · rw [d6]; exact kt6_5
      · rw [d7]; exact kt7_5
      · rw [d8]; exact kt8_5
      · rw [d9]; exact kt9_5
      · rw [d10]; exact kt10_5
      · rw [d11]; exact kt11_5
      · rw [d12]; exact kt12_5
      · rw [d13]; exact kt13_5
      · rw [d14]; exact kt14_5
      · rw [d15]; exact kt15_5
      · rw [d16]; exact kt16_5
    · simp only [tys, List.mem_cons, List.not_mem_nil, or_false] at ht
      rcases ht with rfl | rfl | rfl | rfl | rfl | rfl <;> first | exact ty0_5 | exact ty1_5 | exact ty2_5 | exact ty3_5 | exact ty4_5 | exact ty5_5
  have cx5 : ∀ c, c ∈ Errs.has → PySem.W.exmOne K (.ref (Errs.ca c)) (.ref e4) = some (decide (c ∈ ([4] : List Nat))) := by
    intro c h
    have h : c ∈ ([0, 1, 2, 3, 4, 5, 6, 7, 8, 9, 10, 11, 12, 13, 14, 15, 16] : List Nat) := h
    simp only [List.mem_cons, List.not_mem_nil, or_false] at h
    rcases h with rfl | rfl | rfl | rfl | rfl | rfl | rfl | rfl | rfl | rfl | rfl | rfl | rfl | rfl | rfl | rfl | rfl
    · rw [d0]; exact xo0_5
    · rw [d1]; exact xo1_5
    · rw [d2]; exact xo2_5
    · rw [d3]; exact xo3_5
    · rw [d4]; exact xo4_5
    · rw [d5]; exact xo5_5
    · rw [d6]; exact xo6_5
    · rw [d7]; exact xo7_5
    · rw [d8]; exact xo8_5
    · rw [d9]; exact xo9_5
    · rw [d10]; exact xo10_5
    · rw [d11]; exact xo11_5
    · rw [d12]; exact xo12_5
    · rw [d13]; exact xo13_5
    · rw [d14]; exact xo14_5
    · rw [d15]; exact xo15_5
    · rw [d16]; exact xo16_5
  have ck6 : ClsK K (.ref e5) [5] := by
    refine ⟨fun c h => ?_, fun t ht => ?_⟩
    · have h : c ∈ ([0, 1, 2, 3, 4, 5, 6, 7, 8, 9, 10, 11, 12, 13, 14, 15, 16] : List Nat) := h
      simp only [List.mem_cons, List.not_mem_nil, or_false] at h
      rcases h with rfl | rfl | rfl | rfl | rfl | rfl | rfl | rfl | rfl | rfl | rfl | rfl | rfl | rfl | rfl | rfl | rfl
      · rw [d0]; exact kt0_6
      · rw [d1]; exact kt1_6
      · rw [d2]; exact kt2_6
      · rw [d3]; exact kt3_6
      · rw [d4]; exact kt4_6
      · rw [d5]; exact kt5_6
      · rw [d6]; exact kt6_6
      · rw [d7]; exact kt7_6
      · rw [d8]; exact kt8_6
      · rw [d9]; exact kt9_6
      · rw [d10]; exact kt10_6
      · rw [d11]; exact kt11_6
      · rw [d12]; exact kt12_6
      · rw [d13]; exact kt13_6
      · rw [d14]; exact kt14_6
      · rw [d15]; exact kt15_6
      · rw [d16]; exact kt16_6
    · simp only [tys, List.mem_cons, List.not_mem_nil, or_false] at ht
      rcases ht with rfl | rfl | rfl | rfl | rfl | rfl <;> first | exact ty0_6 | exact ty1_6 | exact ty2_6 | exact ty3_6 | exact ty4_6 | exact ty5_6
  have cx6 : ∀ c, c ∈ Errs.has → PySem.W.exmOne K (.ref (Errs.ca c)) (.ref e5) = some (decide (c ∈ ([5] : List Nat))) := by
    intro c h
    have h : c ∈ ([0, 1, 2, 3, 4, 5, 6, 7, 8, 9, 10, 11, 12, 13, 14, 15, 16] : List Nat) := h
    simp only [List.mem_cons, List.not_mem_nil, or_false] at h
    rcases h with rfl | rfl | rfl | rfl | rfl | rfl | rfl | rfl | rfl | rfl | rfl | rfl | rfl | rfl | rfl | rfl | rfl
    · rw [d0]; exact xo0_6
    · rw [d1]; exact xo1_6
    · rw [d2]; exact xo2_6
    · rw [d3]; exact xo3_6
    · rw [d4]; exact xo4_6
    · rw [d5]; exact xo5_6
    · rw [d6]; exact xo6_6
    · rw [d7]; exact xo7_6
    · rw [d8]; exact xo8_6
    · rw [d9]; exact xo9_6
    · rw [d10]; exact xo10_6
    · rw [d11]; exact xo11_6
    · rw [d12]; exact xo12_6
    · rw [d13]; exact xo13_6
    · rw [d14]; exact xo14_6
    · rw [d15]; exact xo15_6
    · rw [d16]; exact xo16_6
  have ck7 : ClsK K (.ref e6) [6] := by
    refine ⟨fun c h => ?_, fun t ht => ?_⟩
    · have h : c ∈ ([0, 1, 2, 3, 4, 5, 6, 7, 8, 9, 10, 11, 12, 13, 14, 15, 16] : List Nat) := h
      simp only [List.mem_cons, List.not_mem_nil, or_false] at h
      rcases h with rfl | rfl | rfl | rfl | rfl | rfl | rfl | rfl | rfl | rfl | rfl | rfl | rfl | rfl | rfl | rfl | rfl
      · rw [d0]; exact kt0_7
      · rw [d1]; exact kt1_7
      · rw [d2]; exact kt2_7
      · rw [d3]; exact kt3_7
      · rw [d4]; exact kt4_7
      · rw [d5]; exact kt5_7
      · rw [d6]; exact kt6_7
      · rw [d7]; exact kt7_7
      · rw [d8]; exact kt8_7
      · rw [d9]; exact kt9_7
      · rw [d10]; exact kt10_7
      · rw [d11]; exact kt11_7
      · rw [d12]; exact kt12_7
      · rw [d13]; exact kt13_7
      · rw [d14]; exact kt14_7
      · rw [d15]; exact kt15_7
      · rw [d16]; exact kt16_7
    · simp only [tys, List.mem_cons, List.not_mem_nil, or_false] at ht
      rcases ht with rfl | rfl | rfl | rfl | rfl | rfl <;> first | exact ty0_7 | exact ty1_7 | exact ty2_7 | exact ty3_7 | exact ty4_7 | exact ty5_7
  have cx7 : ∀ c, c ∈ Errs.has → PySem.W.exmOne K (.ref (Errs.ca c)) (.ref e6) = some (decide (c ∈ ([6] : List Nat))) := by
    intro c h
    have h : c ∈ ([0, 1, 2, 3, 4, 5, 6, 7, 8, 9, 10, 11, 12, 13, 14, 15, 16] : List Nat) := h
    simp only [List.mem_cons, List.not_mem_nil, or_false] at h
    rcases h with rfl | rfl | rfl | rfl | rfl | rfl | rfl | rfl | rfl | rfl | rfl | rfl | rfl | rfl | rfl | rfl | rfl
    · rw [d0]; exact xo0_7
    · rw [d1]; exact xo1_7
    · rw [d2]; exact xo2_7
    · rw [d3]; exact xo3_7
    · rw [d4]; exact xo4_7
    · rw [d5]; exact xo5_7
    · rw [d6]; exact xo6_7
    · rw [d7]; exact xo7_7
    · rw [d8]; exact xo8_7
    · rw [d9]; exact xo9_7
    · rw [d10]; exact xo10_7
    · rw [d11]; exact xo11_7
    · rw [d12]; exact xo12_7
    · rw [d13]; exact xo13_7
    · rw [d14]; exact xo14_7
    · rw [d15]; exact xo15_7
    · rw [d16]; exact xo16_7
  have ck8 : ClsK K (.ref e7) [7] := by
    refine ⟨fun c h => ?_, fun t ht => ?_⟩
    · have h : c ∈ ([0, 1, 2, 3, 4, 5, 6, 7, 8, 9, 10, 11, 12, 13, 14, 15, 16] : List Nat) := h
      simp only [List.mem_cons, List.not_mem_nil, or_false] at h
      rcases h with rfl | rfl | rfl | rfl | rfl | rfl | rfl | rfl | rfl | rfl | rfl | rfl | rfl | rfl | rfl | rfl | rfl
      · rw [d0]; exact kt0_8
      · rw [d1]; exact kt1_8
      · rw [d2]; exact kt2_8
      · rw [d3]; exact kt3_8
      · rw [d4]; exact kt4_8
      · rw [d5]; exact kt5_8
      · rw [d6]; exact kt6_8
      · rw [d7]; exact kt7_8
      · rw [d8]; exact kt8_8
      · rw [d9]; exact kt9_8
      · rw [d10]; exact kt10_8
      · rw [d11]; exact kt11_8
      · rw [d12]; exact kt12_8
      · rw [d13]; exact kt13_8
      · rw [d14]; exact kt14_8
      · rw [d15]; exact kt15_8
      · rw [d16]; exact kt16_8
    · simp only [tys, List.mem_cons, List.not_mem_nil, or_false] at ht
      rcases ht with rfl | rfl | rfl | rfl | rfl | rfl <;> first | exact ty0_8 | exact ty1_8 | exact ty2_8 | exact ty3_8 | exact ty4_8 | exact ty5_8
  have cx8 : ∀ c, c ∈ Errs.has → PySem.W.exmOne K (.ref (Errs.ca c)) (.ref e7) = some (decide (c ∈ ([7] : List Nat))) := by
    intro c h
    have h : c ∈ ([0, 1, 2, 3, 4, 5, 6, 7, 8, 9, 10, 11, 12, 13, 14, 15, 16] : List Nat) := h
    simp only [List.mem_cons, List.not_mem_nil, or_false] at h
    rcases h with rfl | rfl | rfl | rfl | rfl | rfl | rfl | rfl | rfl | rfl | rfl | rfl | rfl | rfl | rfl | rfl | rfl
    · rw [d0]; exact xo0_8
    · rw [d1]; exact xo1_8
    · rw [d2]; exact xo2_8
    · rw [d3]; exact xo3_8
    · rw [d4]; exact xo4_8
    · rw [d5]; exact xo5_8
    · rw [d6]; exact xo6_8
    · rw [d7]; exact xo7_8
    · rw [d8]; exact xo8_8
    · rw [d9]; exact xo9_8
    · rw [d10]; exact xo10_8
    · rw [d11]; exact xo11_8
    · rw [d12]; exact xo12_8
    · rw [d13]; exact xo13_8
    · rw [d14]; exact xo14_8
    · rw [d15]; exact xo15_8
    · rw [d16]; exact xo16_8
  have ck9 : ClsK K (.ref e8) [8] := by
    refine ⟨fun c h => ?_, fun t ht => ?_⟩
    · have h : c ∈ ([0, 1, 2, 3, 4, 5, 6, 7, 8, 9, 10, 11, 12, 13, 14, 15, 16] : List Nat) := h
      simp only [List.mem_cons, List.not_mem_nil, or_false] at h
      rcases h with rfl | rfl | rfl | rfl | rfl | rfl | rfl | rfl | rfl | rfl | rfl | rfl | rfl | rfl | rfl | rfl | rfl
      · rw [d0]; exact kt0_9
      · rw [d1]; exact kt1_9
      · rw [d2]; exact kt2_9
      · rw [d3]; exact kt3_9
      · rw [d4]; exact kt4_9
      · rw [d5]; exact kt5_9
      · rw [d6]; exact kt6_9
      · rw [d7]; exact kt7_9
      · rw [d8]; exact kt8_9
      · rw [d9]; exact kt9_9
      · rw [d10]; exact kt10_9
      · rw [d11]; exact kt11_9
      · rw [d12]; exact kt12_9
      · rw [d13]; exact kt13_9
      · rw [d14]; exact kt14_9
      · rw [d15]; exact kt15_9
      · rw [d16]; exact kt16_9
    · simp only [tys, List.mem_cons, List.not_mem_nil, or_false] at ht
      rcases ht with rfl | rfl | rfl | rfl | rfl | rfl <;> first | exact ty0_9 | exact ty1_9 | exact ty2_9 | exact ty3_9 | exact ty4_9 | exact ty5_9
  have cx9 : ∀ c, c ∈ Errs.has → PySem.W.exmOne K (.ref (Errs.ca c)) (.ref e8) = some (decide (c ∈ ([8] : List Nat))) := by
    intro c h
    have h : c ∈ ([0, 1, 2, 3, 4, 5, 6, 7, 8, 9, 10, 11, 12, 13, 14, 15, 16] : List Nat) := h
    simp only [List.mem_cons, List.not_mem_nil, or_false] at h
    rcases h with rfl | rfl | rfl | rfl | rfl | rfl | rfl | rfl | rfl | rfl | rfl | rfl | rfl | rfl | rfl | rfl | rfl
    · rw [d0]; exact xo0_9
    · rw [d1]; exact xo1_9
    · rw [d2]; exact xo2_9
    · rw [d3]; exact xo3_9
    · rw [d4]; exact xo4_9
    · rw [d5]; exact xo5_9
    · rw [d6]; exact xo6_9
    · rw [d7]; exact xo7_9
    · rw [d8]; exact xo8_9
    · rw [d9]; exact xo9_9
    · rw [d10]; exact xo10_9
    · rw [d11]; exact xo11_9
    · rw [d12]; exact xo12_9
    · rw [d13]; exact xo13_9
    · rw [d14]; exact xo14_9
    · rw [d15]; exact xo15_9
    · rw [d16]; exact xo16_9
  have ck10 : ClsK K (.ref e9) [9] := by
    refine ⟨fun c h => ?_, fun t ht => ?_⟩
    · have h : c ∈ ([0, 1, 2, 3, 4, 5, 6, 7, 8, 9, 10, 11, 12, 13, 14, 15, 16] : List Nat) := h
      simp only [List.mem_cons, List.not_mem_nil, or_false] at h
      rcases h with rfl | rfl | rfl | rfl | rfl | rfl | rfl | rfl | rfl | rfl | rfl | rfl | rfl | rfl | rfl | rfl | rfl
      · rw [d0]; exact kt0_10
      · rw [d1]; exact kt1_10
      · rw [d2]; exact kt2_10
      · rw [d3]; exact kt3_10
      · rw [d4]; exact kt4_10
      · rw [d5]; exact kt5_10
      · rw [d6]; exact kt6_10
      · rw [d7]; exact kt7_10
      · rw [d8]; exact kt8_10
      · rw [d9]; exact kt9_10
      · rw [d10]; exact kt10_10
      · rw [d11]; exact kt11_10
      · rw [d12]; exact kt12_10
      · rw [d13]; exact kt13_10
      · rw [d14]; exact kt14_10
      · rw [d15]; exact kt15_10
      · rw [d16]; exact kt16_10
    · simp only [tys, List.mem_cons, List.not_mem_nil, or_false] at ht
      rcases ht with rfl | rfl | rfl | rfl | rfl | rfl <;> first | exact ty0_10 | exact ty1_10 | exact ty2_10 | exact ty3_10 | exact ty4_10 | exact ty5_10
  have cx10 : ∀ c, c ∈ Errs.has → PySem.W.exmOne K (.ref (Errs.ca c)) (.ref e9) = some (decide (c ∈ ([9] : List Nat))) := by
    intro c h
    have h : c ∈ ([0, 1, 2, 3, 4, 5, 6, 7, 8, 9, 10, 11, 12, 13, 14, 15, 16] : List Nat) := h
    simp only [List.mem_cons, List.not_mem_nil, or_false] at h
    rcases h with rfl | rfl | rfl | rfl | rfl | rfl | rfl | rfl | rfl | rfl | rfl | rfl | rfl | rfl | rfl | rfl | rfl
    · rw [d0]; exact xo0_10
    · rw [d1]; exact xo1_10
    · rw [d2]; exact xo2_10
    · rw [d3]; exact xo3_10
    · rw [d4]; exact xo4_10
    · rw [d5]; exact xo5_10
    · rw [d6]; exact xo6_10
    · rw [d7]; exact xo7_10
    · rw [d8]; exact xo8_10
    · rw [d9]; exact xo9_10
    · rw [d10]; exact xo10_10
    · rw [d11]; exact xo11_10
    · rw [d12]; exact xo12_10
    · rw [d13]; exact xo13_10
    · rw [d14]; exact xo14_10
    · rw [d15]; exact xo15_10
    · rw [d16]; exact xo16_10
  have ck11 : ClsK K (.ref e10) [10] := by
    refine ⟨fun c h => ?_, fun t ht => ?_⟩
    · have h : c ∈ ([0, 1, 2, 3, 4, 5, 6, 7, 8, 9, 10, 11, 12, 13, 14, 15, 16] : List Nat) := h
      simp only [List.mem_cons, List.not_mem_nil, or_false] at h
      rcases h with rfl | rfl | rfl | rfl | rfl | rfl | rfl | rfl | rfl | rfl | rfl | rfl | rfl | rfl | rfl | rfl | rfl
      · rw [d0]; exact kt0_11
      · rw [d1]; exact kt1_11
      · rw [d2]; exact kt2_11
      · rw [d3]; exact kt3_11
      · rw [d4]; exact kt4_11
      · rw [d5]; exact kt5_11
      · rw [d6]; exact kt6_11
      · rw [d7]; exact kt7_11
      · rw [d8]; exact kt8_11
      · rw [d9]; exact kt9_11
      · rw [d10]; exact kt10_11
      · rw [d11]; exact kt11_11
      · rw [d12]; exact kt12_11
      · rw [d13]; exact kt13_11
      · rw [d14]; exact kt14_11
      · rw [d15]; exact kt15_11
      · rw [d16]; exact kt16_11
    · simp only [tys, List.mem_cons, List.not_mem_nil, or_false] at ht
      rcases ht with rfl | rfl | rfl | rfl | rfl | rfl <;> first | exact ty0_11 | exact ty1_11 | exact ty2_11 | exact ty3_11 | exact ty4_11 | exact ty5_11
  have cx11 : ∀ c, c ∈ Errs.has → PySem.W.exmOne K (.ref (Errs.ca c)) (.ref e10) = some (decide (c ∈ ([10] : List Nat))) := by
    intro c h
    have h : c ∈ ([0, 1, 2, 3, 4, 5, 6, 7, 8, 9, 10, 11, 12, 13, 14, 15, 16] : List Nat) := h
    simp only [List.mem_cons, List.not_mem_nil, or_false] at h
    rcases h with rfl | rfl | rfl | rfl | rfl | rfl | rfl | rfl | rfl | rfl | rfl | rfl | rfl | rfl | rfl | rfl | rfl
    · rw [d0]; exact xo0_11
    · rw [d1]; exact xo1_11
    · rw [d2]; exact xo2_11
    · rw [d3]; exact xo3_11
    · rw [d4]; exact xo4_11
    · rw [d5]; exact xo5_11
    · rw [d6]; exact xo6_11
    · rw [d7]; exact xo7_11
    · rw [d8]; exact xo8_11
    · rw [d9]; exact xo9_11
    · rw [d10]; exact xo10_11
    · rw [d11]; exact xo11_11
    · rw [d12]; exact xo12_11
    · rw [d13]; exact xo13_11
    · rw [d14]; exact xo14_11
    · rw [d15]; exact xo15_11
    · rw [d16]; exact xo16_11
  have ck12 : ClsK K (.ref e11) [11] := by
    refine ⟨fun c h => ?_, fun t ht => ?_⟩
    · have h : c ∈ ([0, 1, 2, 3, 4, 5, 6, 7, 8, 9, 10, 11, 12, 13, 14, 15, 16] : List Nat) := h
      simp only [List.mem_cons, List.not_mem_nil, or_false] at h
      rcases h with rfl | rfl | rfl | rfl | rfl | rfl | rfl | rfl | rfl | rfl | rfl | rfl | rfl | rfl | rfl | rfl | rfl
      · rw [d0]; exact kt0_12
      · rw [d1]; exact kt1_12
      · rw [d2]; exact kt2_12
      · rw [d3]; exact kt3_12
      · rw [d4]; exact kt4_12
      · rw [d5]; exact kt5_12
      · rw [d6]; exact kt6_12
      · rw [d7]; exact kt7_12
      · rw [d8]; exact kt8_12
      · rw [d9]; exact kt9_12
      · rw [d10]; exact kt10_12
      · rw [d11]; exact kt11_12
      · rw [d12]; exact kt12_12
      · rw [d13]; exact kt13_12
      · rw [d14]; exact kt14_12
      · rw [d15]; exact kt15_12
      · rw [d16]; exact kt16_12
    · simp only [tys, List.mem_cons, List.not_mem_nil, or_false] at ht
      rcases ht with rfl | rfl | rfl | rfl | rfl | rfl <;> first | exact ty0_12 | exact ty1_12 | exact ty2_12 | exact ty3_12 | exact ty4_12 | exact ty5_12
  have cx12 : ∀ c, c ∈ Errs.has → PySem.W.exmOne K (.ref (Errs.ca c)) (.ref e11) = some (decide (c ∈ ([11] : List Nat))) := by
    intro c h
    have h : c ∈ ([0, 1, 2, 3, 4, 5, 6, 7, 8, 9, 10, 11, 12, 13, 14, 15, 16] : List Nat) := h
    simp only [List.mem_cons, List.not_mem_nil, or_false] at h
    rcases h with rfl | rfl | rfl | rfl | rfl | rfl | rfl | rfl | rfl | rfl | rfl | rfl | rfl | rfl | rfl | rfl | rfl
    · rw [d0]; exact xo0_12
    · rw [d1]; exact xo1_12
    · rw [d2]; exact xo2_12
    · rw [d3]; exact xo3_12
    · rw [d4]; exact xo4_12
    · rw [d5]; exact xo5_12
    · rw [d6]; exact xo6_12
    · rw [d7]; exact xo7_12
    · rw [d8]; exact xo8_12
    · rw [d9]; exact xo9_12
    · rw [d10]; exact xo10_12
    · rw [d11]; exact xo11_12
    · rw [d12]; exact xo12_12
    · rw [d13]; exact xo13_12
    · rw [d14]; exact xo14_12
    · rw [d15]; exact xo15_12
    · rw [d16]; exact xo16_12
  have ck13 : ClsK K (.ref e12) [12] := by
    refine ⟨fun c h => ?_, fun t ht => ?_⟩
    · have h : c ∈ ([0, 1, 2, 3, 4, 5, 6, 7, 8, 9, 10, 11, 12, 13, 14, 15, 16] : List Nat) := h
      simp only [List.mem_cons, List.not_mem_nil, or_false] at h
      rcases h with rfl | rfl | rfl | rfl | rfl | rfl | rfl | rfl | rfl | rfl | rfl | rfl | rfl | rfl | rfl | rfl | rfl
      · rw [d0]; exact kt0_13
      · rw [d1]; exact kt1_13
      · rw [d2]; exact kt2_13
      · rw [d3]; exact kt3_13
      · rw [d4]; exact kt4_13
      · rw [d5]; exact kt5_13
      · rw [d6]; exact kt6_13
      · rw [d7]; exact kt7_13
      · rw [d8]; exact kt8_13
      · rw [d9]; exact kt9_13
      · rw [d10]; exact kt10_13
      · rw [d11]; exact kt11_13
      · rw [d12]; exact kt12_13
      · rw [d13]; exact kt13_13
      · rw [d14]; exact kt14_13
      · rw [d15]; exact kt15_13
      · rw [d16]; exact kt16_13
    · simp only [tys, List.mem_cons, List.not_mem_nil, or_false] at ht
      rcases ht with rfl | rfl | rfl | rfl | rfl | rfl <;> first | exact ty0_13 | exact ty1_13 | exact ty2_13 | exact ty3_13 | exact ty4_13 | exact ty5_13
  have cx13 : ∀ c, c ∈ Errs.has → PySem.W.exmOne K (.ref (Errs.ca c)) (.ref e12) = some (decide (c ∈ ([12] : List Nat))) := by
    intro c h
    have h : c ∈ ([0, 1, 2, 3, 4, 5, 6, 7, 8, 9, 10, 11, 12, 13, 14, 15, 16] : List Nat) := h
    simp only [List.mem_cons, List.not_mem_nil, or_false] at h
    rcases h with rfl | rfl | rfl | rfl | rfl | rfl | rfl | rfl | rfl | rfl | rfl | rfl | rfl | rfl | rfl | rfl | rfl
    · rw [d0]; exact xo0_13
    · rw [d1]; exact xo1_13
    · rw [d2]; exact xo2_13
    · rw [d3]; exact xo3_13
    · rw [d4]; exact xo4_13
    · rw [d5]; exact xo5_13
    · rw [d6]; exact xo6_13
    · rw [d7]; exact xo7_13
    · rw [d8]; exact xo8_13
    · rw [d9]; exact xo9_13
    · rw [d10]; exact xo10_13
    · rw [d11]; exact xo11_13
    · rw [d12]; exact xo12_13
    · rw [d13]; exact xo13_13
    · rw [d14]; exact xo14_13
    · rw [d15]; exact xo15_13
    · rw [d16]; exact xo16_13
  have ck14 : ClsK K (.ref e13) [13] := by
    refine ⟨fun c h => ?_, fun t ht => ?_⟩
    · have h : c ∈ ([0, 1, 2, 3, 4, 5, 6, 7, 8, 9, 10, 11, 12, 13, 14, 15, 16] : List Nat) := h
      simp only [List.mem_cons, List.not_mem_nil, or_false] at h
      rcases h with rfl | rfl | rfl | rfl | rfl | rfl | rfl | rfl | rfl | rfl | rfl | rfl | rfl | rfl | rfl | rfl | rfl
      · rw [d0]; exact kt0_14
      · rw [d1]; exact kt1_14
      · rw [d2]; exact kt2_14
      · rw [d3]; exact kt3_14
      · rw [d4]; exact kt4_14
      · rw [d5]; exact kt5_14
      · rw [d6]; exact kt6_14
      · rw [d7]; exact kt7_14
      · rw [d8]; exact kt8_14
      · rw [d9]; exact kt9_14
      · rw [d10]; exact kt10_14
      · rw [d11]; exact kt11_14
      · rw [d12]; exact kt12_14
      · rw [d13]; exact kt13_14
      · rw [d14]; exact kt14_14
      · rw [d15]; exact kt15_14
      · rw [d16]; exact kt16_14
    · simp only [tys, List.mem_cons, List.not_mem_nil, or_false] at ht
      rcases ht with rfl | rfl | rfl | rfl | rfl | rfl <;> first | exact ty0_14 | exact ty1_14 | exact ty2_14 | exact ty3_14 | exact ty4_14 | exact ty5_14
  have cx14 : ∀ c, c ∈ Errs.has → PySem.W.exmOne K (.ref (Errs.ca c)) (.ref e13) = some (decide (c ∈ ([13] : List Nat))) := by
    intro c h
    have h : c ∈ ([0, 1, 2, 3, 4, 5, 6, 7, 8, 9, 10, 11, 12, 13, 14, 15, 16] : List Nat) := h
    simp only [List.mem_cons, List.not_mem_nil, or_false] at h
    rcases h with rfl | rfl | rfl | rfl | rfl | rfl | rfl | rfl | rfl | rfl | rfl | rfl | rfl | rfl | rfl | rfl | rfl
    · rw [d0]; exact xo0_14
    · rw [d1]; exact xo1_14
    · rw [d2]; exact xo2_14
    · rw [d3]; exact xo3_14
    · rw [d4]; exact xo4_14
    · rw [d5]; exact xo5_14
    · rw [d6]; exact xo6_14
    · rw [d7]; exact xo7_14
    · rw [d8]; exact xo8_14
    · rw [d9]; exact xo9_14
    · rw [d10]; exact xo10_14
    · rw [d11]; exact xo11_14
    · rw [d12]; exact xo12_14
    · rw [d13]; exact xo13_14
    · rw [d14]; exact xo14_14
    · rw [d15]; exact xo15_14
    · rw [d16]; exact xo16_14
  have ck15 : ClsK K (.ref e14) [14] := by
    refine ⟨fun c h => ?_, fun t ht => ?_⟩
    · have h : c ∈ ([0, 1, 2, 3, 4, 5, 6, 7, 8, 9, 10, 11, 12, 13, 14, 15, 16] : List Nat) := h
      simp only [List.mem_cons, List.not_mem_nil, or_false] at h
      rcases h with rfl | rfl | rfl | rfl | rfl | rfl | rfl | rfl | rfl | rfl | rfl | rfl | rfl | rfl | rfl | rfl | rfl
      · rw [d0]; exact kt0_15
      · rw [d1]; exact kt1_15
      · rw [d2]; exact kt2_15
      · rw [d3]; exact kt3_15
      · rw [d4]; exact kt4_15
      · rw [d5]; exact kt5_15
      · rw [d6]; exact kt6_15
      · rw [d7]; exact kt7_15
      · rw [d8]; exact kt8_15
      · rw [d9]; exact kt9_15
      · rw [d10]; exact kt10_15
      · rw [d11]; exact kt11_15
      · rw [d12]; exact kt12_15
      · rw [d13]; exact kt13_15
      · rw [d14]; exact kt14_15
      · rw [d15]; exact kt15_15
      · rw [d16]; exact kt16_15
    · simp only [tys, List.mem_cons, List.not_mem_nil, or_false] at ht
      rcases ht with rfl | rfl | rfl | rfl | rfl | rfl <;> first | exact ty0_15 | exact ty1_15 | exact ty2_15 | exact ty3_15 | exact ty4_15 | exact ty5_15
  have cx15 : ∀ c, c ∈ Errs.has → PySem.W.exmOne K (.ref (Errs.ca c)) (.ref e14) = some (decide (c ∈ ([14] : List Nat))) := by
    intro c h
    have h : c ∈ ([0, 1, 2, 3, 4, 5, 6, 7, 8, 9, 10, 11, 12, 13, 14, 15, 16] : List Nat) := h
    simp only [List.mem_cons, List.not_mem_nil, or_false] at h
    rcases h with rfl | rfl | rfl | rfl | rfl | rfl | rfl | rfl | rfl | rfl | rfl | rfl | rfl | rfl | rfl | rfl | rfl
    · rw [d0]; exact xo0_15
    · rw [d1]; exact xo1_15
    · rw [d2]; exact xo2_15
    · rw [d3]; exact xo3_15
    · rw [d4]; exact xo4_15
    · rw [d5]; exact xo5_15
    · rw [d6]; exact xo6_15
    · rw [d7]; exact xo7_15
    · rw [d8]; exact xo8_15
    · rw [d9]; exact xo9_15
    · rw [d10]; exact xo10_15
    · rw [d11]; exact xo11_15
    · rw [d12]; exact xo12_15
    · rw [d13]; exact xo13_15
    · rw [d14]; exact xo14_15
    · rw [d15]; exact xo15_15
    · rw [d16]; exact xo16_15
  have ck16 : ClsK K (.ref e15) [15] := by
    refine ⟨fun c h => ?_, fun t ht => ?_⟩
    · have h : c ∈ ([0, 1, 2, 3, 4, 5, 6, 7, 8, 9, 10, 11, 12, 13, 14, 15, 16] : List Nat) := h
      simp only [List.mem_cons, List.not_mem_nil, or_false] at h
      rcases h with rfl | rfl | rfl | rfl | rfl | rfl | rfl | rfl | rfl | rfl | rfl | rfl | rfl | rfl | rfl | rfl | rfl
      · rw [d0]; exact kt0_16
      · rw [d1]; exact kt1_16
      · rw [d2]; exact kt2_16
      · rw [d3]; exact kt3_16
      · rw [d4]; exact kt4_16
      · rw [d5]; exact kt5_16
      · rw [d6]; exact kt6_16
      · rw [d7]; exact kt7_16
      · rw [d8]; exact kt8_16
      · rw [d9]; exact kt9_16
      · rw [d10]; exact kt10_16
      · rw [d11]; exact kt11_16
      · rw [d12]; exact kt12_16
      · rw [d13]; exact kt13_16
      · rw [d14]; exact kt14_16
      · rw [d15]; exact kt15_16
      · rw [d16]; exact kt16_16
    · simp only [tys, List.mem_cons, List.not_mem_nil, or_false] at ht
      rcases ht with rfl | rfl | rfl | rfl | rfl | rfl <;> first | exact ty0_16 | exact ty1_16 | exact ty2_16 | exact ty3_16 | exact ty4_16 | exact ty5_16
  have cx16 : ∀ c, c ∈ Errs.has → PySem.W.exmOne K (.ref (Errs.ca c)) (.ref e15) = some (decide (c ∈ ([15] : List Nat))) := by
    intro c h
    have h : c ∈ ([0, 1, 2, 3, 4, 5, 6, 7, 8, 9, 10, 11, 12, 13, 14, 15, 16] : List Nat) := h
    simp only [List.mem_cons, List.not_mem_nil, or_false] at h
    rcases h with rfl | rfl | rfl | rfl | rfl | rfl | rfl | rfl | rfl | rfl | rfl | rfl | rfl | rfl | rfl | rfl | rfl
    · rw [d0]; exact xo0_16
    · rw [d1]; exact xo1_16
    · rw [d2]; exact xo2_16
    · rw [d3]; exact xo3_16
    · rw [d4]; exact xo4_16
    · rw [d5]; exact xo5_16
    · rw [d6]; exact xo6_16
    · rw [d7]; exact xo7_16
    · rw [d8]; exact xo8_16
    · rw [d9]; exact xo9_16
    · rw [d10]; exact xo10_16
    · rw [d11]; exact xo11_16
    · rw [d12]; exact xo12_16
    · rw [d13]; exact xo13_16
    · rw [d14]; exact xo14_16
    · rw [d15]; exact xo15_16
    · rw [d16]; exact xo16_16
  have ck17 : ClsK K (.ref e16) [16] := by
    refine ⟨fun c h => ?_, fun t ht => ?_⟩
    · have h : c ∈ ([0, 1, 2, 3, 4, 5, 6, 7, 8, 9, 10, 11, 12, 13, 14, 15, 16] : List Nat) := h
      simp only [List.mem_cons, List.not_mem_nil, or_false] at h
      rcases h with rfl | rfl | rfl | rfl | rfl | rfl | rfl | rfl | rfl | rfl | rfl | rfl | rfl | rfl | rfl | rfl | rfl
      · rw [d0]; exact kt0_17
      · rw [d1]; exact kt1_17
      · rw [d2]; exact kt2_17
      · rw [d3]; exact kt3_17
      · rw [d4]; exact kt4_17
      · rw [d5]; exact kt5_17
      · rw [d6]; exact kt6_17
      · rw [d7]; exact kt7_17
      · rw [d8]; exact kt8_17
      · rw [d9]; exact kt9_17
      · rw [d10]; exact kt10_17
      · rw [d11]; exact kt11_17
      · rw [d12]; exact kt12_17
      · rw [d13]; exact kt13_17
      · rw [d14]; exact kt14_17
      · rw [d15]; exact kt15_17
      · rw [d16]; exact kt16_17
    · simp only [tys, List.mem_cons, List.not_mem_nil, or_false] at ht
      rcases ht with rfl | rfl | rfl | rfl | rfl | rfl <;> first | exact ty0_17 | exact ty1_17 | exact ty2_17 | exact ty3_17 | exact ty4_17 | exact ty5_17
  have cx17 : ∀ c, c ∈ Errs.has → PySem.W.exmOne K (.ref (Errs.ca c)) (.ref e16) = some (decide (c ∈ ([16] : List Nat))) := by
    intro c h
    have h : c ∈ ([0, 1, 2, 3, 4, 5, 6, 7, 8, 9, 10, 11, 12, 13, 14, 15, 16] : List Nat) := h
    simp only [List.mem_cons, List.not_mem_nil, or_false] at h
    rcases h with rfl | rfl | rfl | rfl | rfl | rfl | rfl | rfl | rfl | rfl | rfl | rfl | rfl | rfl | rfl | rfl | rfl
    · rw [d0]; exact xo0_17
    · rw [d1]; exact xo1_17
    · rw [d2]; exact xo2_17
    · rw [d3]; exact xo3_17
    · rw [d4]; exact xo4_17
    · rw [d5]; exact xo5_17
    · rw [d6]; exact xo6_17
    · rw [d7]; exact xo7_17
    · rw [d8]; exact xo8_17
    · rw [d9]; exact xo9_17
    · rw [d10]; exact xo10_17
    · rw [d11]; exact xo11_17
    · rw [d12]; exact xo12_17
    · rw [d13]; exact xo13_17
    · rw [d14]; exact xo14_17
    · rw [d15]; exact xo15_17
    · rw [d16]; exact xo16_17
  have eo : ErrsOk K mg prg.tx := by
    refine ⟨exs, flds, fun x cs hx => ?_, fun x c hx => ?_, fun x c f hx hf => ?_⟩
    · simp only [prg, tx, List.lookup_cons, List.lookup_nil] at hx
      repeat' split at hx
      all_goals first | (cases hx; done) | skip
      · rename_i q; cases hx; rw [eq_of_beq q]; exact ⟨.ty "ValueError", .type "ValueError", .ty _, rfl, .inr ⟨PySem.W.mg_none_of X G zV, rfl, by decide⟩, ck0, cx0⟩
      · rename_i q; cases hx; rw [eq_of_beq q]; exact ⟨.ref e0, .ref e0, .own _, rfl, .inl (PySem.W.mg_of X G ea0), ck1, cx1⟩
      · rename_i q; cases hx; rw [eq_of_beq q]; exact ⟨.ref e1, .ref e1, .own _, rfl, .inl (PySem.W.mg_of X G ea1), ck2, cx2⟩
      · rename_i q; cases hx; rw [eq_of_beq q]; exact ⟨.ref e2, .ref e2, .own _, rfl, .inl (PySem.W.mg_of X G ea2), ck3, cx3⟩
      · rename_i q; cases hx; rw [eq_of_beq q]; exact ⟨.ref e3, .ref e3, .own _, rfl, .inl (PySem.W.mg_of X G ea3), ck4, cx4⟩
      · rename_i q; cases hx; rw [eq_of_beq q]; exact ⟨.ref e4, .ref e4, .own _, rfl, .inl (PySem.W.mg_of X G ea4), ck5, cx5⟩
      · rename_i q; cases hx; rw [eq_of_beq q]; exact ⟨.ref e5, .ref e5, .own _, rfl, .inl (PySem.W.mg_of X G ea5), ck6, cx6⟩
      · rename_i q; cases hx; rw [eq_of_beq q]; exact ⟨.ref e6, .ref e6, .own _, rfl, .inl (PySem.W.mg_of X G ea6), ck7, cx7⟩
      · rename_i q; cases hx; rw [eq_of_beq q]; exact ⟨.ref e7, .ref e7, .own _, rfl, .inl (PySem.W.mg_of X G ea7), ck8, cx8⟩
      · rename_i q; cases hx; rw [eq_of_beq q]; exact ⟨.ref e8, .ref e8, .own _, rfl, .inl (PySem.W.mg_of X G ea8), ck9, cx9⟩
      · rename_i q; cases hx; rw [eq_of_beq q]; exact ⟨.ref e9, .ref e9, .own _, rfl, .inl (PySem.W.mg_of X G ea9), ck10, cx10⟩
      · rename_i q; cases hx; rw [eq_of_beq q]; exact ⟨.ref e10, .ref e10, .own _, rfl, .inl (PySem.W.mg_of X G ea10), ck11, cx11⟩
      · rename_i q; cases hx; rw [eq_of_beq q]; exact ⟨.ref e11, .ref e11, .own _, rfl, .inl (PySem.W.mg_of X G ea11), ck12, cx12⟩
      · rename_i q; cases hx; rw [eq_of_beq q]; exact ⟨.ref e12, .ref e12, .own _, rfl, .inl (PySem.W.mg_of X G ea12), ck13, cx13⟩
      · rename_i q; cases hx; rw [eq_of_beq q]; exact ⟨.ref e13, .ref e13, .own _, rfl, .inl (PySem.W.mg_of X G ea13), ck14, cx14⟩
      · rename_i q; cases hx; rw [eq_of_beq q]; exact ⟨.ref e14, .ref e14, .own _, rfl, .inl (PySem.W.mg_of X G ea14), ck15, cx15⟩
      · rename_i q; cases hx; rw [eq_of_beq q]; exact ⟨.ref e15, .ref e15, .own _, rfl, .inl (PySem.W.mg_of X G ea15), ck16, cx16⟩
      · rename_i q; cases hx; rw [eq_of_beq q]; exact ⟨.ref e16, .ref e16, .own _, rfl, .inl (PySem.W.mg_of X G ea16), ck17, cx17⟩
    · simp only [prg, tx, List.lookup_cons, List.lookup_nil] at hx
      repeat' split at hx
      all_goals first | (cases hx; done) | (simp at hx; done) | skip
      · rename_i q; cases hx; rw [eq_of_beq q, d0]; exact ⟨by show 0 ∈ ([0, 1, 2, 3, 4, 5, 6, 7, 8, 9, 10, 11, 12, 13, 14, 15, 16] : List Nat); decide, PySem.W.mg_of X G ea0, rk0, rx0, xs0, rt0⟩
      · rename_i q; cases hx; rw [eq_of_beq q, d1]; exact ⟨by show 1 ∈ ([0, 1, 2, 3, 4, 5, 6, 7, 8, 9, 10, 11, 12, 13, 14, 15, 16] : List Nat); decide, PySem.W.mg_of X G ea1, rk1, rx1, xs1, rt1⟩
      · rename_i q; cases hx; rw [eq_of_beq q, d2]; exact ⟨by show 2 ∈ ([0, 1, 2, 3, 4, 5, 6, 7, 8, 9, 10, 11, 12, 13, 14, 15, 16] : List Nat); decide, PySem.W.mg_of X G ea2, rk2, rx2, xs2, rt2⟩
      · rename_i q; cases hx; rw [eq_of_beq q, d3]; exact ⟨by show 3 ∈ ([0, 1, 2, 3, 4, 5, 6, 7, 8, 9, 10, 11, 12, 13, 14, 15, 16] : List Nat); decide, PySem.W.mg_of X G ea3, rk3, rx3, xs3, rt3⟩
      · rename_i q; cases hx; rw [eq_of_beq q, d4]; exact ⟨by show 4 ∈ ([0, 1, 2, 3, 4, 5, 6, 7, 8, 9, 10, 11, 12, 13, 14, 15, 16] : List Nat); decide, PySem.W.mg_of X G ea4, rk4, rx4, xs4, rt4⟩
      · rename_i q; cases hx; rw [eq_of_beq q, d5]; exact ⟨by show 5 ∈ ([0, 1, 2, 3, 4, 5, 6, 7, 8, 9, 10, 11, 12, 13, 14, 15, 16] : List Nat); decide, PySem.W.mg_of X G ea5, rk5, rx5, xs5, rt5⟩
      · rename_i q; cases hx; rw [eq_of_beq q, d6]; exact ⟨by show 6 ∈ ([0, 1, 2, 3, 4, 5, 6, 7, 8, 9, 10, 11, 12, 13, 14, 15, 16] : List Nat); decide, PySem.W.mg_of X G ea6, rk6, rx6, xs6, rt6⟩
      · rename_i q; cases hx; rw [eq_of_beq q, d7]; exact ⟨by show 7 ∈ ([0, 1, 2, 3, 4, 5, 6, 7, 8, 9, 10, 11, 12, 13, 14, 15, 16] : List Nat); decide, PySem.W.mg_of X G ea7, rk7, rx7, xs7, rt7⟩
      · rename_i q; cases hx; rw [eq_of_beq q, d8]; exact ⟨by show 8 ∈ ([0, 1, 2, 3, 4, 5, 6, 7, 8, 9, 10, 11, 12, 13, 14, 15, 16] : List Nat); decide, PySem.W.mg_of X G ea8, rk8, rx8, xs8, rt8⟩
      · rename_i q; cases hx; rw [eq_of_beq q, d9]; exact ⟨by show 9 ∈ ([0, 1, 2, 3, 4, 5, 6, 7, 8, 9, 10, 11, 12, 13, 14, 15, 16] : List Nat); decide, PySem.W.mg_of X G ea9, rk9, rx9, xs9, rt9⟩
      · rename_i q; cases hx; rw [eq_of_beq q, d10]; exact ⟨by show 10 ∈ ([0, 1, 2, 3, 4, 5, 6, 7, 8, 9, 10, 11, 12, 13, 14, 15, 16] : List Nat); decide, PySem.W.mg_of X G ea10, rk10, rx10, xs10, rt10⟩
      · rename_i q; cases hx; rw [eq_of_beq q, d11]; exact ⟨by show 11 ∈ ([0, 1, 2, 3, 4, 5, 6, 7, 8, 9, 10, 11, 12, 13, 14, 15, 16] : List Nat); decide, PySem.W.mg_of X G ea11, rk11, rx11, xs11, rt11⟩
      · rename_i q; cases hx; rw [eq_of_beq q, d12]; exact ⟨by show 12 ∈ ([0, 1, 2, 3, 4, 5, 6, 7, 8, 9, 10, 11, 12, 13, 14, 15, 16] : List Nat); decide, PySem.W.mg_of X G ea12, rk12, rx12, xs12, rt12⟩
      · rename_i q; cases hx; rw [eq_of_beq q, d13]; exact ⟨by show 13 ∈ ([0, 1, 2, 3, 4, 5, 6, 7, 8, 9, 10, 11, 12, 13, 14, 15, 16] : List Nat); decide, PySem.W.mg_of X G ea13, rk13, rx13, xs13, rt13⟩
    · simp only [prg, tx, List.lookup_cons, List.lookup_nil] at hx
      repeat' split at hx
      all_goals first | (cases hx; done) | (cases hx; exact absurd rfl hf) | skip
      · rename_i q; cases hx; rw [eq_of_beq q, d14]; exact ⟨by show 14 ∈ ([0, 1, 2, 3, 4, 5, 6, 7, 8, 9, 10, 11, 12, 13, 14, 15, 16] : List Nat); decide, PySem.W.mg_of X G ea14, ⟨⟨_, _, _, _, _, _, _, _, _, _, _, _, _, _, _, xl14, by first | rfl | decide +kernel | simp [HandSPX.refsVE]⟩, sa14, xs14, rt14, rk14⟩, fa14, g14, e0, _, _, sI14, in14, it14, fun_mk (st := sI14) il14 ic14 ik14, sci14, ini14, ⟨PySem.W.mg_of X G ea0, br, bi, bg⟩, (fun_mk (st := sI14) il14 ic14 ik14).binds (ps := [(Str.ofString "self"), (Str.ofString "at")]) fun _ _ _ _ _ _ us hl => match us, hl with | [_, _], _ => rfl⟩
      · rename_i q; cases hx; rw [eq_of_beq q, d15]; exact ⟨by show 15 ∈ ([0, 1, 2, 3, 4, 5, 6, 7, 8, 9, 10, 11, 12, 13, 14, 15, 16] : List Nat); decide, PySem.W.mg_of X G ea15, ⟨⟨_, _, _, _, _, _, _, _, _, _, _, _, _, _, _, xl15, by first | rfl | decide +kernel | simp [HandSPX.refsVE]⟩, sa15, xs15, rt15, rk15⟩, fa15, g15, e0, _, _, sI15, in15, it15, fun_mk (st := sI15) il15 ic15 ik15, sci15, ini15, ⟨PySem.W.mg_of X G ea0, br, bi, bg⟩, (fun_mk (st := sI15) il15 ic15 ik15).binds (ps := [(Str.ofString "self"), (Str.ofString "at")]) fun _ _ _ _ _ _ us hl => match us, hl with | [_, _], _ => rfl⟩
      · rename_i q; cases hx; rw [eq_of_beq q, d16]; exact ⟨by show 16 ∈ ([0, 1, 2, 3, 4, 5, 6, 7, 8, 9, 10, 11, 12, 13, 14, 15, 16] : List Nat); decide, PySem.W.mg_of X G ea16, ⟨⟨_, _, _, _, _, _, _, _, _, _, _, _, _, _, _, xl16, by first | rfl | decide +kernel | simp [HandSPX.refsVE]⟩, sa16, xs16, rt16, rk16⟩, fp16, g16, e0, _, _, sI16, in16, it16, fun_mk (st := sI16) il16 ic16 ik16, sci16, ini16, ⟨PySem.W.mg_of X G ea0, br, bi, bg⟩, (fun_mk (st := sI16) il16 ic16 ik16).binds (ps := [(Str.ofString "self"), (Str.ofString "part")]) fun _ _ _ _ _ _ us hl => match us, hl with | [_, _], _ => rfl⟩
  have e := hfa.symm.trans (PySem.W.mg_of X G a5)
  cases e
  have F0 := fun_mk (st := s0) l0 c0 k0
  have b0 := F0.binds (ps := P0) fun _ _ _ _ _ _ us hl => match us, hl with | [_, _], _ => rfl
  have F1 := fun_mk (st := s1) l1 c1 k1
  have b1 := F1.binds (ps := P1) fun _ _ _ _ _ _ us hl => match us, hl with | [_, _], _ => rfl
  have F2 := fun_mk (st := s2) l2 c2 k2
  have b2 := F2.binds (ps := P2) fun _ _ _ _ _ _ us hl => match us, hl with | [_, _], _ => rfl
  have F3 := fun_mk (st := s3) l3 c3 k3
  have b3 := F3.binds (ps := P3) fun _ _ _ _ _ _ us hl => match us, hl with | [_], _ => rfl
  have F4 := fun_mk (st := s4) l4 c4 k4
  have b4 := F4.binds (ps := P4) fun _ _ _ _ _ _ us hl => match us, hl with | [_], _ => rfl
  have F5 := fun_mk (st := s5) l5 c5 k5
  have b5 := F5.binds (ps := P5) fun _ _ _ _ _ _ us hl => match us, hl with | [_], _ => rfl
  have blt : ∀ x ∈ bnames, mg x = none := by
    intro x hx
    simp only [bnames, List.mem_cons, List.not_mem_nil, or_false] at hx
    rcases hx with rfl | rfl | rfl | rfl | rfl | rfl | rfl | rfl | rfl | rfl | rfl | rfl | rfl | rfl | rfl | rfl | rfl | rfl
    · exact PySem.W.mg_none_of X G z0
    · exact PySem.W.mg_none_of X G z1
    · exact PySem.W.mg_none_of X G z2
    · exact PySem.W.mg_none_of X G z3
    · exact PySem.W.mg_none_of X G z4
    · exact PySem.W.mg_none_of X G z5
    · exact PySem.W.mg_none_of X G z6
    · exact PySem.W.mg_none_of X G z7
    · exact PySem.W.mg_none_of X G z8
    · exact PySem.W.mg_none_of X G z9
    · exact PySem.W.mg_none_of X G z10
    · exact PySem.W.mg_none_of X G z11
    · exact PySem.W.mg_none_of X G z12
    · exact PySem.W.mg_none_of X G z13
    · exact PySem.W.mg_none_of X G z14
    · exact PySem.W.mg_none_of X G z15
    · exact PySem.W.mg_none_of X G z16
    · exact PySem.W.mg_none_of X G z17
  have csts : ∀ x d, tx.consts.lookup x = some d → ∃ u, mg x = some u ∧ match d with | .int j => ∃ t, u = .int j t | .str j => ∃ t, u = .str j t | _ => True := by
    intro x d hx
    cases hx
  have tab : ∀ (i : Nat) (x : Str), prg.tx.names[i]? = some x → ∃ F, T[i]? = some F ∧ FnAt prg K mg F x := by
    intro i x hx
    match i, hx with
    | 0, hx => cases hx; exact ⟨Lib.f_law_pool, rfl, (Str.ofString "_law_pool"), s0, _, _, P0, N0, F0, sc0, ok0, rfl, rfl, mu0, PySem.W.mg_of X G a0, b0⟩
    | 1, hx => cases hx; exact ⟨Lib.f_law_take, rfl, (Str.ofString "_law_take"), s1, _, _, P1, N1, F1, sc1, ok1, rfl, rfl, mu1, PySem.W.mg_of X G a1, b1⟩
    | 2, hx => cases hx; exact ⟨f_law_made, rfl, (Str.ofString "_law_made"), s2, _, _, P2, N2, F2, sc2, ok2, rfl, rfl, mu2, PySem.W.mg_of X G a2, b2⟩
    | 3, hx => cases hx; exact ⟨f_law_kinds, rfl, (Str.ofString "_law_kinds"), s3, _, _, P3, N3, F3, sc3, ok3, rfl, rfl, mu3, PySem.W.mg_of X G a3, b3⟩
    | 4, hx => cases hx; exact ⟨(f_law_right 3 2 1), rfl, (Str.ofString "_law_right"), s4, _, _, P4, N4, F4, sc4, ok4, rfl, rfl, mu4, PySem.W.mg_of X G a4, b4⟩
    | 5, hx => cases hx; exact ⟨(f_law 0 4), rfl, (Str.ofString "law"), s5, _, _, P5, N5, F5, sc5, ok5, rfl, rfl, mu5, PySem.W.mg_of X G a5, b5⟩
    | n + 6, hx => cases hx
  refine ⟨PySem.W.fnOf (Str.ofString "law") (Str.ofString "law") (defArgs s5) (defBody s5) (defScope s5) .none kV5 dc5 pm5 an5 cd5 ct5, fun s v => .of_eq rfl, fun base _ _ => ?_⟩
  have q := fn_sound (P := prg) (fu := FU) (pr := l.prog) (w := w) (base := base) (k := 39) (Phi := run FU T 39) F5 sc5 ok5 rfl rfl (fun i q => of_decide_eq_true (List.all_eq_true.mp mu5 i q)) blt (table_sound blt csts eo tab 39) csts eo
  have er : run FU T 40 5 = runF FU (run FU T 39) (f_law 0 4) := by funext args; rfl
  rw [er]
  exact q
theorem walk {l : PySem.W.OpenLaw} {q : Program} {loose : List Str} {XP : (Str → Option Value) → Heap → Prop} {YP : World → Heap → Prop} {d : DefRec} {K : Params → PySem.W.Frag} (hn : l.most = some 63) (hdf : d.params.defaults = [])
    (hY : ∀ (w : World) (h : Heap), YP w h → (K w.params).In h)
    (hrun : ∀ ns : List Int, ns.length ≤ 63 → ∃ outs, run FU T 40 5 [.sh (scrD ns)] = .ret (.sh (.bool true)) outs)
    (F : ∀ (w : World) (mg : Str → Option Value) (fa : Addr) (h : Heap), (K w.params).In h → h.Ns mainGlobals mg → mg d.name = some (.ref fa) →
      ∃ fd : FuncData, (∀ (s : Shared) (u : Value), BindsTo s fd ⟨[u], []⟩ [((Str.ofString "_law_script"), u)]) ∧ ∀ base : Heap, (K w.params).In base → base.Ns mainGlobals mg → FnG l.prog w (K w.params) mg base (L2.CX l.prog w) 42 fa fd [(Str.ofString "_law_script")] (@spF (ers (K w.params)) (K w.params) (run FU T 40 5))) :
    PySem.W.WalkO q loose XP YP l.row.toRowW d [] (fun f vs => PySem.call f vs) :=
  walkG (n := 63) (k := 42) (x := (Str.ofString "_law_script")) (CX := fun w => L2.CX l.prog w) (sp := fun w => @spF (ers (K w.params)) (K w.params) (run FU T 40 5)) hn (by decide) hdf ⟨rfl, by decide, by decide⟩ hY F (fun w H a ns hl _ hS => @law_start (ers (K w.params)) prg _ _ _ _ _ hS (hrun ns hl)) fun w H s e s' z => @cx_none (ers (K w.params)) _ _ _ _ _ _ z
end K04
open PySem PySem.W PyProof.Rows
set_option maxRecDepth 100000 in
set_option maxHeartbeats 0 in
theorem PySem.Challenge.cw_fewstand_k04_refusals_apart_holds : PySem.Challenge.rw_fewstand_k04_refusals_apart.Holds := by
  w_on; o_law; k_head; (case hw => w_witness2)
  k_fill
  refine K04.walk (l := PySem.Challenge.rw_fewstand_k04_refusals_apart) rfl rfl (fun w h Y => PySem.W.kIn_of Y) K04.hrun ?F
  case F =>
    intro w mg fa h KX G hmg
    refine' K04.all_mk KX G hmg ?a0 ?l0 ?c0 ?k0 ?a1 ?l1 ?c1 ?k1 ?a2 ?l2 ?c2 ?k2 ?a3 ?l3 ?c3 ?k3 ?a4 ?l4 ?c4 ?k4 ?a5 ?l5 ?c5 ?k5 ?ea0 ?ea1 ?ea2 ?ea3 ?ea4 ?ea5 ?ea6 ?ea7 ?ea8 ?ea9 ?ea10 ?ea11 ?ea12 ?ea13 ?ea14 ?ea15 ?ea16 ?xg0 ?xk0 ?xs0 ?xd0 ?xa0 ?xm0 ?fa0 ?fp0 ?rk0 ?rx0 ?rt0 ?kt0_0 ?xo0_0 ?kt0_1 ?xo0_1 ?kt0_2 ?xo0_2 ?kt0_3 ?xo0_3 ?kt0_4 ?xo0_4 ?kt0_5 ?xo0_5 ?kt0_6 ?xo0_6 ?kt0_7 ?xo0_7 ?kt0_8 ?xo0_8 ?kt0_9 ?xo0_9 ?kt0_10 ?xo0_10 ?kt0_11 ?xo0_11 ?kt0_12 ?xo0_12 ?kt0_13 ?xo0_13 ?kt0_14 ?xo0_14 ?kt0_15 ?xo0_15 ?kt0_16 ?xo0_16 ?kt0_17 ?xo0_17 ?xg1 ?xk1 ?xs1 ?xd1 ?xa1 ?xm1 ?fa1 ?fp1 ?rk1 ?rx1 ?rt1 ?kt1_0 ?xo1_0 ?kt1_1 ?xo1_1 ?kt1_2 ?xo1_2 ?kt1_3 ?xo1_3 ?kt1_4 ?xo1_4 ?kt1_5 ?xo1_5 ?kt1_6 ?xo1_6 ?kt1_7 ?xo1_7 ?kt1_8 ?xo1_8 ?kt1_9 ?xo1_9 ?kt1_10 ?xo1_10 ?kt1_11 ?xo1_11 ?kt1_12 ?xo1_12 ?kt1_13 ?xo1_13 ?kt1_14 ?xo1_14 ?kt1_15 ?xo1_15 ?kt1_16 ?xo1_16 ?kt1_17 ?xo1_17 ?xg2 ?xk2 ?xs2 ?xd2 ?xa2 ?xm2 ?fa2 ?fp2 ?rk2 ?rx2 ?rt2 ?kt2_0 ?xo2_0 ?kt2_1 ?xo2_1 ?kt2_2 ?xo2_2 ?kt2_3 ?xo2_3 ?kt2_4 ?xo2_4 ?kt2_5 ?xo2_5 ?kt2_6 ?xo2_6 ?kt2_7 ?xo2_7 ?kt2_8 ?xo2_8 ?kt2_9 ?xo2_9 ?kt2_10 ?xo2_10 ?kt2_11 ?xo2_11 ?kt2_12 ?xo2_12 ?kt2_13 ?xo2_13 ?kt2_14 ?xo2_14 ?kt2_15 ?xo2_15 ?kt2_16 ?xo2_16 ?kt2_17 ?xo2_17 ?xg3 ?xk3 ?xs3 ?xd3 ?xa3 ?xm3 ?fa3 ?fp3 ?rk3 ?rx3 ?rt3 ?kt3_0 ?xo3_0 ?kt3_1 ?xo3_1 ?kt3_2 ?xo3_2 ?kt3_3 ?xo3_3 ?kt3_4 ?xo3_4 ?kt3_5 ?xo3_5 ?kt3_6 ?xo3_6 ?kt3_7 ?xo3_7 ?kt3_8 ?xo3_8 ?kt3_9 ?xo3_9 ?kt3_10 ?xo3_10 ?kt3_11 ?xo3_11 ?kt3_12 ?xo3_12 ?kt3_13 ?xo3_13 ?kt3_14 ?xo3_14 ?kt3_15 ?xo3_15 ?kt3_16 ?xo3_16 ?kt3_17 ?xo3_17 ?xg4 ?xk4 ?xs4 ?xd4 ?xa4 ?xm4 ?fa4 ?fp4 ?rk4 ?rx4 ?rt4 ?kt4_0 ?xo4_0 ?kt4_1 ?xo4_1 ?kt4_2 ?xo4_2 ?kt4_3 ?xo4_3 ?kt4_4 ?xo4_4 ?kt4_5 ?xo4_5 ?kt4_6 ?xo4_6 ?kt4_7 ?xo4_7 ?kt4_8 ?xo4_8 ?kt4_9 ?xo4_9 ?kt4_10 ?xo4_10 ?kt4_11 ?xo4_11 ?kt4_12 ?xo4_12 ?kt4_13 ?xo4_13 ?kt4_14 ?xo4_14 ?kt4_15 ?xo4_15 ?kt4_16 ?xo4_16 ?kt4_17 ?xo4_17 ?xg5 ?xk5 ?xs5 ?xd5 ?xa5 ?xm5 ?fa5 ?fp5 ?rk5 ?rx5 ?rt5 ?kt5_0 ?xo5_0 ?kt5_1 ?xo5_1 ?kt5_2 ?xo5_2 ?kt5_3 ?xo5_3 ?kt5_4 ?xo5_4 ?kt5_5 ?xo5_5 ?kt5_6 ?xo5_6 ?kt5_7 ?xo5_7 ?kt5_8 ?xo5_8 ?kt5_9 ?xo5_9 ?kt5_10 ?xo5_10 ?kt5_11 ?xo5_11 ?kt5_12 ?xo5_12 ?kt5_13 ?xo5_13 ?kt5_14 ?xo5_14 ?kt5_15 ?xo5_15 ?kt5_16 ?xo5_16 ?kt5_17 ?xo5_17 ?xg6 ?xk6 ?xs6 ?xd6 ?xa6 ?xm6 ?fa6 ?fp6 ?rk6 ?rx6 ?rt6 ?kt6_0 ?xo6_0 ?kt6_1 ?xo6_1 ?kt6_2 ?xo6_2 ?kt6_3 ?xo6_3 ?kt6_4 ?xo6_4 ?kt6_5 ?xo6_5 ?kt6_6 ?xo6_6 ?kt6_7 ?xo6_7 ?kt6_8 ?xo6_8 ?kt6_9 ?xo6_9 ?kt6_10 ?xo6_10 ?kt6_11 ?xo6_11 ?kt6_12 ?xo6_12 ?kt6_13 ?xo6_13 ?kt6_14 ?xo6_14 ?kt6_15 ?xo6_15 ?kt6_16 ?xo6_16 ?kt6_17 ?xo6_17 ?xg7 ?xk7 ?xs7 ?xd7 ?xa7 ?xm7 ?fa7 ?fp7 ?rk7 ?rx7 ?rt7 ?kt7_0 ?xo7_0 ?kt7_1 ?xo7_1 ?kt7_2 ?xo7_2 ?kt7_3 ?xo7_3 ?kt7_4 ?xo7_4 ?kt7_5 ?xo7_5 ?kt7_6 ?xo7_6 ?kt7_7 ?xo7_7 ?kt7_8 ?xo7_8 ?kt7_9 ?xo7_9 ?kt7_10 ?xo7_10 ?kt7_11 ?xo7_11 ?kt7_12 ?xo7_12 ?kt7_13 ?xo7_13 ?kt7_14 ?xo7_14 ?kt7_15 ?xo7_15 ?kt7_16 ?xo7_16 ?kt7_17 ?xo7_17 ?xg8 ?xk8 ?xs8 ?xd8 ?xa8 ?xm8 ?fa8 ?fp8 ?rk8 ?rx8 ?rt8 ?kt8_0 ?xo8_0 ?kt8_1 ?xo8_1 ?kt8_2 ?xo8_2 ?kt8_3 ?xo8_3 ?kt8_4 ?xo8_4 ?kt8_5 ?xo8_5 ?kt8_6 ?xo8_6 ?kt8_7 ?xo8_7 ?kt8_8 ?xo8_8 ?kt8_9 ?xo8_9 ?kt8_10 ?xo8_10 ?kt8_11 ?xo8_11 ?kt8_12 ?xo8_12 ?kt8_13 ?xo8_13 ?kt8_14 ?xo8_14 ?kt8_15 ?xo8_15 ?kt8_16 ?xo8_16 ?kt8_17 ?xo8_17 ?xg9 ?xk9 ?xs9 ?xd9 ?xa9 ?xm9 ?fa9 ?fp9 ?rk9 ?rx9 ?rt9 ?kt9_0 ?xo9_0 ?kt9_1 ?xo9_1 ?kt9_2 ?xo9_2 ?kt9_3 ?xo9_3 ?kt9_4 ?xo9_4 ?kt9_5 ?xo9_5 ?kt9_6 ?xo9_6 ?kt9_7 ?xo9_7 ?kt9_8 ?xo9_8 ?kt9_9 ?xo9_9 ?kt9_10 ?xo9_10 ?kt9_11 ?xo9_11 ?kt9_12 ?xo9_12 ?kt9_13 ?xo9_13 ?kt9_14 ?xo9_14 ?kt9_15 ?xo9_15 ?kt9_16 ?xo9_16 ?kt9_17 ?xo9_17 ?xg10 ?xk10 ?xs10 ?xd10 ?xa10 ?xm10 ?fa10 ?fp10 ?rk10 ?rx10 ?rt10 ?kt10_0 ?xo10_0 ?kt10_1 ?xo10_1 ?kt10_2 ?xo10_2 ?kt10_3 ?xo10_3 ?kt10_4 ?xo10_4 ?kt10_5 ?xo10_5 ?kt10_6 ?xo10_6 ?kt10_7 ?xo10_7 ?kt10_8 ?xo10_8 ?kt10_9 ?xo10_9 ?kt10_10 ?xo10_10 ?kt10_11 ?xo10_11 ?kt10_12 ?xo10_12 ?kt10_13 ?xo10_13 ?kt10_14 ?xo10_14 ?kt10_15 ?xo10_15 ?kt10_16 ?xo10_16 ?kt10_17 ?xo10_17 ?xg11 ?xk11 ?xs11 ?xd11 ?xa11 ?xm11 ?fa11 ?fp11 ?rk11 ?rx11 ?rt11 ?kt11_0 ?xo11_0 ?kt11_1 ?xo11_1 ?kt11_2 ?xo11_2 ?kt11_3 ?xo11_3 ?kt11_4 ?xo11_4 ?kt11_5 ?xo11_5 ?kt11_6 ?xo11_6 ?kt11_7 ?xo11_7 ?kt11_8 ?xo11_8 ?kt11_9 ?xo11_9 ?kt11_10 ?xo11_10 ?kt11_11 ?xo11_11 ?kt11_12 ?xo11_12 ?kt11_13 ?xo11_13 ?kt11_14 ?xo11_14 ?kt11_15 ?xo11_15 ?kt11_16 ?xo11_16 ?kt11_17 ?xo11_17 ?xg12 ?xk12 ?xs12 ?xd12 ?xa12 ?xm12 ?fa12 ?fp12 ?rk12 ?rx12 ?rt12 ?kt12_0 ?xo12_0 ?kt12_1 ?xo12_1 ?kt12_2 ?xo12_2 ?kt12_3 ?xo12_3 ?kt12_4 ?xo12_4 ?kt12_5 ?xo12_5 ?kt12_6 ?xo12_6 ?kt12_7 ?xo12_7 ?kt12_8 ?xo12_8 ?kt12_9 ?xo12_9 ?kt12_10 ?xo12_10 ?kt12_11 ?xo12_11 ?kt12_12 ?xo12_12 ?kt12_13 ?xo12_13 ?kt12_14 ?xo12_14 ?kt12_15 ?xo12_15 ?kt12_16 ?xo12_16 ?kt12_17 ?xo12_17 ?xg13 ?xk13 ?xs13 ?xd13 ?xa13 ?xm13 ?fa13 ?fp13 ?rk13 ?rx13 ?rt13 ?kt13_0 ?xo13_0 ?kt13_1 ?xo13_1 ?kt13_2 ?xo13_2 ?kt13_3 ?xo13_3 ?kt13_4 ?xo13_4 ?kt13_5 ?xo13_5 ?kt13_6 ?xo13_6 ?kt13_7 ?xo13_7 ?kt13_8 ?xo13_8 ?kt13_9 ?xo13_9 ?kt13_10 ?xo13_10 ?kt13_11 ?xo13_11 ?kt13_12 ?xo13_12 ?kt13_13 ?xo13_13 ?kt13_14 ?xo13_14 ?kt13_15 ?xo13_15 ?kt13_16 ?xo13_16 ?kt13_17 ?xo13_17 ?xg14 ?xk14 ?xs14 ?xd14 ?xa14 ?xm14 ?fa14 ?fp14 ?rk14 ?rt14 ?sa14 ?in14 ?it14 ?il14 ?ic14 ?ik14 ?xl14 ?kt14_0 ?xo14_0 ?kt14_1 ?xo14_1 ?kt14_2 ?xo14_2 ?kt14_3 ?xo14_3 ?kt14_4 ?xo14_4 ?kt14_5 ?xo14_5 ?kt14_6 ?xo14_6 ?kt14_7 ?xo14_7 ?kt14_8 ?xo14_8 ?kt14_9 ?xo14_9 ?kt14_10 ?xo14_10 ?kt14_11 ?xo14_11 ?kt14_12 ?xo14_12 ?kt14_13 ?xo14_13 ?kt14_14 ?xo14_14 ?kt14_15 ?xo14_15 ?kt14_16 ?xo14_16 ?kt14_17 ?xo14_17 ?xg15 ?xk15 ?xs15 ?xd15 ?xa15 ?xm15 ?fa15 ?fp15 ?rk15 ?rt15 ?sa15 ?in15 ?it15 ?il15 ?ic15 ?ik15 ?xl15 ?kt15_0 ?xo15_0 ?kt15_1 ?xo15_1 ?kt15_2 ?xo15_2 ?kt15_3 ?xo15_3 ?kt15_4 ?xo15_4 ?kt15_5 ?xo15_5 ?kt15_6 ?xo15_6 ?kt15_7 ?xo15_7 ?kt15_8 ?xo15_8 ?kt15_9 ?xo15_9 ?kt15_10 ?xo15_10 ?kt15_11 ?xo15_11 ?kt15_12 ?xo15_12 ?kt15_13 ?xo15_13 ?kt15_14 ?xo15_14 ?kt15_15 ?xo15_15 ?kt15_16 ?xo15_16 ?kt15_17 ?xo15_17 ?xg16 ?xk16 ?xs16 ?xd16 ?xa16 ?xm16 ?fa16 ?fp16 ?rk16 ?rt16 ?sa16 ?in16 ?it16 ?il16 ?ic16 ?ik16 ?xl16 ?kt16_0 ?xo16_0 ?kt16_1 ?xo16_1 ?kt16_2 ?xo16_2 ?kt16_3 ?xo16_3 ?kt16_4 ?xo16_4 ?kt16_5 ?xo16_5 ?kt16_6 ?xo16_6 ?kt16_7 ?xo16_7 ?kt16_8 ?xo16_8 ?kt16_9 ?xo16_9 ?kt16_10 ?xo16_10 ?kt16_11 ?xo16_11 ?kt16_12 ?xo16_12 ?kt16_13 ?xo16_13 ?kt16_14 ?xo16_14 ?kt16_15 ?xo16_15 ?kt16_16 ?xo16_16 ?kt16_17 ?xo16_17 ?xn ?xt ?ty0_0 ?ty1_0 ?ty2_0 ?ty3_0 ?ty4_0 ?ty5_0 ?ty0_1 ?ty1_1 ?ty2_1 ?ty3_1 ?ty4_1 ?ty5_1 ?ty0_2 ?ty1_2 ?ty2_2 ?ty3_2 ?ty4_2 ?ty5_2 ?ty0_3 ?ty1_3 ?ty2_3 ?ty3_3 ?ty4_3 ?ty5_3 ?ty0_4 ?ty1_4 ?ty2_4 ?ty3_4 ?ty4_4 ?ty5_4 ?ty0_5 ?ty1_5 ?ty2_5 ?ty3_5 ?ty4_5 ?ty5_5 ?ty0_6 ?ty1_6 ?ty2_6 ?ty3_6 ?ty4_6 ?ty5_6 ?ty0_7 ?ty1_7 ?ty2_7 ?ty3_7 ?ty4_7 ?ty5_7 ?ty0_8 ?ty1_8 ?ty2_8 ?ty3_8 ?ty4_8 ?ty5_8 ?ty0_9 ?ty1_9 ?ty2_9 ?ty3_9 ?ty4_9 ?ty5_9 ?ty0_10 ?ty1_10 ?ty2_10 ?ty3_10 ?ty4_10 ?ty5_10 ?ty0_11 ?ty1_11 ?ty2_11 ?ty3_11 ?ty4_11 ?ty5_11 ?ty0_12 ?ty1_12 ?ty2_12 ?ty3_12 ?ty4_12 ?ty5_12 ?ty0_13 ?ty1_13 ?ty2_13 ?ty3_13 ?ty4_13 ?ty5_13 ?ty0_14 ?ty1_14 ?ty2_14 ?ty3_14 ?ty4_14 ?ty5_14 ?ty0_15 ?ty1_15 ?ty2_15 ?ty3_15 ?ty4_15 ?ty5_15 ?ty0_16 ?ty1_16 ?ty2_16 ?ty3_16 ?ty4_16 ?ty5_16 ?ty0_17 ?ty1_17 ?ty2_17 ?ty3_17 ?ty4_17 ?ty5_17 ?br ?bi ?bg ?zV ?z0 ?z1 ?z2 ?z3 ?z4 ?z5 ?z6 ?z7 ?z8 ?z9 ?z10 ?z11 ?z12 ?z13 ?z14 ?z15 ?z16 ?z17
    (case a0 => k_is)
    (case l0 => k_is)
    (case c0 => k_is)
    (case k0 => k_is)
    (case a1 => k_is)
    (case l1 => k_is)
    (case c1 => k_is)
    (case k1 => k_is)
    (case a2 => k_is)
    (case l2 => k_is)
    (case c2 => k_is)
    (case k2 => k_is)
    (case a3 => k_is)
    (case l3 => k_is)
    (case c3 => k_is)
    (case k3 => k_is)
    (case a4 => k_is)
    (case l4 => k_is)
    (case c4 => k_is)
    (case k4 => k_is)
    (case a5 => k_is)
    (case l5 => k_is)
    (case c5 => k_is)
    (case k5 => k_is)
    (case ea0 => k_is)
    (case ea1 => k_is)
    (case ea2 => k_is)
    (case ea3 => k_is)
    (case ea4 => k_is)
    (case ea5 => k_is)
    (case ea6 => k_is)
    (case ea7 => k_is)
    (case ea8 => k_is)
    (case ea9 => k_is)
    (case ea10 => k_is)
    (case ea11 => k_is)
    (case ea12 => k_is)
    (case ea13 => k_is)
    (case ea14 => k_is)
    (case ea15 => k_is)
    (case ea16 => k_is)
    (case xg0 => k_is)
    (case xk0 => k_is)
    (case xs0 => k_is)
    (case xd0 => k_is)
    (case xa0 => k_is)
    (case xm0 => k_is)
    (case fa0 => k_is)
    (case fp0 => k_is)
    (case rk0 => k_is)
    (case rx0 => k_exc)
    (case rt0 => k_is)
    (case kt0_0 => kit_is)
    (case xo0_0 => kts_exm)
    (case kt0_1 => kit_is)
    (case xo0_1 => kts_exm)
    (case kt0_2 => kit_is)
    (case xo0_2 => kts_exm)
    (case kt0_3 => kit_is)
    (case xo0_3 => kts_exm)
    (case kt0_4 => kit_is)
    (case xo0_4 => kts_exm)
    (case kt0_5 => kit_is)
    (case xo0_5 => kts_exm)
    (case kt0_6 => kit_is)
    (case xo0_6 => kts_exm)
    (case kt0_7 => kit_is)
    (case xo0_7 => kts_exm)
    (case kt0_8 => kit_is)
    (case xo0_8 => kts_exm)
    (case kt0_9 => kit_is)
    (case xo0_9 => kts_exm)
    (case kt0_10 => kit_is)
    (case xo0_10 => kts_exm)
    (case kt0_11 => kit_is)
    (case xo0_11 => kts_exm)
    (case kt0_12 => kit_is)
    (case xo0_12 => kts_exm)
    (case kt0_13 => kit_is)
    (case xo0_13 => kts_exm)
    (case kt0_14 => kit_is)
    (case xo0_14 => kts_exm)
    (case kt0_15 => kit_is)
    (case xo0_15 => kts_exm)
    (case kt0_16 => kit_is)
    (case xo0_16 => kts_exm)
    (case kt0_17 => kit_is)
    (case xo0_17 => kts_exm)
    (case xg1 => k_is)
    (case xk1 => k_is)
    (case xs1 => k_is)
    (case xd1 => k_is)
    (case xa1 => k_is)
    (case xm1 => k_is)
    (case fa1 => k_is)
    (case fp1 => k_is)
    (case rk1 => k_is)
    (case rx1 => k_exc)
    (case rt1 => k_is)
    (case kt1_0 => kit_is)
    (case xo1_0 => kts_exm)
    (case kt1_1 => kit_is)
    (case xo1_1 => kts_exm)
    (case kt1_2 => kit_is)
    (case xo1_2 => kts_exm)
    (case kt1_3 => kit_is)
    (case xo1_3 => kts_exm)
    (case kt1_4 => kit_is)
    (case xo1_4 => kts_exm)
    (case kt1_5 => kit_is)
    (case xo1_5 => kts_exm)
    (case kt1_6 => kit_is)
    (case xo1_6 => kts_exm)
    (case kt1_7 => kit_is)
    (case xo1_7 => kts_exm)
    (case kt1_8 => kit_is)
    (case xo1_8 => kts_exm)
    (case kt1_9 => kit_is)
    (case xo1_9 => kts_exm)
    (case kt1_10 => kit_is)
    (case xo1_10 => kts_exm)
    (case kt1_11 => kit_is)
    (case xo1_11 => kts_exm)
    (case kt1_12 => kit_is)
    (case xo1_12 => kts_exm)
    (case kt1_13 => kit_is)
    (case xo1_13 => kts_exm)
    (case kt1_14 => kit_is)
    (case xo1_14 => kts_exm)
    (case kt1_15 => kit_is)
    (case xo1_15 => kts_exm)
    (case kt1_16 => kit_is)
    (case xo1_16 => kts_exm)
    (case kt1_17 => kit_is)
    (case xo1_17 => kts_exm)
    (case xg2 => k_is)
    (case xk2 => k_is)
    (case xs2 => k_is)
    (case xd2 => k_is)
    (case xa2 => k_is)
    (case xm2 => k_is)
    (case fa2 => k_is)
    (case fp2 => k_is)
    (case rk2 => k_is)
    (case rx2 => k_exc)
    (case rt2 => k_is)
    (case kt2_0 => kit_is)
    (case xo2_0 => kts_exm)
    (case kt2_1 => kit_is)
    (case xo2_1 => kts_exm)
    (case kt2_2 => kit_is)
    (case xo2_2 => kts_exm)
    (case kt2_3 => kit_is)
    (case xo2_3 => kts_exm)
    (case kt2_4 => kit_is)
    (case xo2_4 => kts_exm)
    (case kt2_5 => kit_is)
    (case xo2_5 => kts_exm)
    (case kt2_6 => kit_is)
    (case xo2_6 => kts_exm)
    (case kt2_7 => kit_is)
    (case xo2_7 => kts_exm)
    (case kt2_8 => kit_is)
    (case xo2_8 => kts_exm)
    (case kt2_9 => kit_is)
    (case xo2_9 => kts_exm)
    (case kt2_10 => kit_is)
    (case xo2_10 => kts_exm)
    (case kt2_11 => kit_is)
    (case xo2_11 => kts_exm)
    (case kt2_12 => kit_is)
    (case xo2_12 => kts_exm)
    (case kt2_13 => kit_is)
    (case xo2_13 => kts_exm)
    (case kt2_14 => kit_is)
    (case xo2_14 => kts_exm)
    (case kt2_15 => kit_is)
    (case xo2_15 => kts_exm)
    (case kt2_16 => kit_is)
    (case xo2_16 => kts_exm)
    (case kt2_17 => kit_is)
    (case xo2_17 => kts_exm)
    (case xg3 => k_is)
    (case xk3 => k_is)
    (case xs3 => k_is)
    (case xd3 => k_is)
    (case xa3 => k_is)
    (case xm3 => k_is)
    (case fa3 => k_is)
    (case fp3 => k_is)
    (case rk3 => k_is)
    (case rx3 => k_exc)
    (case rt3 => k_is)
    (case kt3_0 => kit_is)
    (case xo3_0 => kts_exm)
    (case kt3_1 => kit_is)
    (case xo3_1 => kts_exm)
    (case kt3_2 => kit_is)
    (case xo3_2 => kts_exm)
    (case kt3_3 => kit_is)
    (case xo3_3 => kts_exm)
    (case kt3_4 => kit_is)
    (case xo3_4 => kts_exm)
    (case kt3_5 => kit_is)
    (case xo3_5 => kts_exm)
    (case kt3_6 => kit_is)
    (case xo3_6 => kts_exm)
    (case kt3_7 => kit_is)
    (case xo3_7 => kts_exm)
    (case kt3_8 => kit_is)
    (case xo3_8 => kts_exm)
    (case kt3_9 => kit_is)
    (case xo3_9 => kts_exm)
    (case kt3_10 => kit_is)
    (case xo3_10 => kts_exm)
    (case kt3_11 => kit_is)
    (case xo3_11 => kts_exm)
    (case kt3_12 => kit_is)
    (case xo3_12 => kts_exm)
    (case kt3_13 => kit_is)
    (case xo3_13 => kts_exm)
    (case kt3_14 => kit_is)
    (case xo3_14 => kts_exm)
    (case kt3_15 => kit_is)
    (case xo3_15 => kts_exm)
    (case kt3_16 => kit_is)
    (case xo3_16 => kts_exm)
    (case kt3_17 => kit_is)
    (case xo3_17 => kts_exm)
    (case xg4 => k_is)
    (case xk4 => k_is)
    (case xs4 => k_is)
    (case xd4 => k_is)
    (case xa4 => k_is)
    (case xm4 => k_is)
    (case fa4 => k_is)
    (case fp4 => k_is)
    (case rk4 => k_is)
    (case rx4 => k_exc)
    (case rt4 => k_is)
    (case kt4_0 => kit_is)
    (case xo4_0 => kts_exm)
    (case kt4_1 => kit_is)
    (case xo4_1 => kts_exm)
    (case kt4_2 => kit_is)
    (case xo4_2 => kts_exm)
    (case kt4_3 => kit_is)
    (case xo4_3 => kts_exm)
    (case kt4_4 => kit_is)
    (case xo4_4 => kts_exm)
    (case kt4_5 => kit_is)
    (case xo4_5 => kts_exm)
    (case kt4_6 => kit_is)
    (case xo4_6 => kts_exm)
    (case kt4_7 => kit_is)
    (case xo4_7 => kts_exm)
    (case kt4_8 => kit_is)
    (case xo4_8 => kts_exm)
    (case kt4_9 => kit_is)
    (case xo4_9 => kts_exm)
    (case kt4_10 => kit_is)
    (case xo4_10 => kts_exm)
    (case kt4_11 => kit_is)
    (case xo4_11 => kts_exm)
    (case kt4_12 => kit_is)
    (case xo4_12 => kts_exm)
    (case kt4_13 => kit_is)
    (case xo4_13 => kts_exm)
    (case kt4_14 => kit_is)
    (case xo4_14 => kts_exm)
    (case kt4_15 => kit_is)
    (case xo4_15 => kts_exm)
    (case kt4_16 => kit_is)
    (case xo4_16 => kts_exm)
    (case kt4_17 => kit_is)
    (case xo4_17 => kts_exm)
    (case xg5 => k_is)
    (case xk5 => k_is)
    (case xs5 => k_is)
    (case xd5 => k_is)
    (case xa5 => k_is)
    (case xm5 => k_is)
    (case fa5 => k_is)
    (case fp5 => k_is)
    (case rk5 => k_is)
    (case rx5 => k_exc)
    (case rt5 => k_is)
    (case kt5_0 => kit_is)
    (case xo5_0 => kts_exm)
    (case kt5_1 => kit_is)
    (case xo5_1 => kts_exm)
    (case kt5_2 => kit_is)
    (case xo5_2 => kts_exm)
    (case kt5_3 => kit_is)
    (case xo5_3 => kts_exm)
    (case kt5_4 => kit_is)
    (case xo5_4 => kts_exm)
    (case kt5_5 => kit_is)
    (case xo5_5 => kts_exm)
    (case kt5_6 => kit_is)
    (case xo5_6 => kts_exm)
    (case kt5_7 => kit_is)
    (case xo5_7 => kts_exm)
    (case kt5_8 => kit_is)
    (case xo5_8 => kts_exm)
    (case kt5_9 => kit_is)
    (case xo5_9 => kts_exm)
    (case kt5_10 => kit_is)
    (case xo5_10 => kts_exm)
    (case kt5_11 => kit_is)
    (case xo5_11 => kts_exm)
    (case kt5_12 => kit_is)
    (case xo5_12 => kts_exm)
    (case kt5_13 => kit_is)
    (case xo5_13 => kts_exm)
    (case kt5_14 => kit_is)
    (case xo5_14 => kts_exm)
    (case kt5_15 => kit_is)
    (case xo5_15 => kts_exm)
    (case kt5_16 => kit_is)
    (case xo5_16 => kts_exm)
    (case kt5_17 => kit_is)
    (case xo5_17 => kts_exm)
    (case xg6 => k_is)
    (case xk6 => k_is)
    (case xs6 => k_is)
    (case xd6 => k_is)
    (case xa6 => k_is)
    (case xm6 => k_is)
    (case fa6 => k_is)
    (case fp6 => k_is)
    (case rk6 => k_is)
    (case rx6 => k_exc)
    (case rt6 => k_is)
    (case kt6_0 => kit_is)
    (case xo6_0 => kts_exm)
    (case kt6_1 => kit_is)
    (case xo6_1 => kts_exm)
    (case kt6_2 => kit_is)
    (case xo6_2 => kts_exm)
    (case kt6_3 => kit_is)
    (case xo6_3 => kts_exm)
    (case kt6_4 => kit_is)
    (case xo6_4 => kts_exm)
    (case kt6_5 => kit_is)
    (case xo6_5 => kts_exm)
    (case kt6_6 => kit_is)
    (case xo6_6 => kts_exm)
    (case kt6_7 => kit_is)
    (case xo6_7 => kts_exm)
    (case kt6_8 => kit_is)
    (case xo6_8 => kts_exm)
    (case kt6_9 => kit_is)
    (case xo6_9 => kts_exm)
    (case kt6_10 => kit_is)
    (case xo6_10 => kts_exm)
    (case kt6_11 => kit_is)
    (case xo6_11 => kts_exm)
    (case kt6_12 => kit_is)
    (case xo6_12 => kts_exm)
    (case kt6_13 => kit_is)
    (case xo6_13 => kts_exm)
    (case kt6_14 => kit_is)
    (case xo6_14 => kts_exm)
    (case kt6_15 => kit_is)
    (case xo6_15 => kts_exm)
    (case kt6_16 => kit_is)
    (case xo6_16 => kts_exm)
    (case kt6_17 => kit_is)
    (case xo6_17 => kts_exm)
    (case xg7 => k_is)
    (case xk7 => k_is)
    (case xs7 => k_is)
    (case xd7 => k_is)
    (case xa7 => k_is)
    (case xm7 => k_is)
    (case fa7 => k_is)
    (case fp7 => k_is)
    (case rk7 => k_is)
    (case rx7 => k_exc)
    (case rt7 => k_is)
    (case kt7_0 => kit_is)
    (case xo7_0 => kts_exm)
    (case kt7_1 => kit_is)
    (case xo7_1 => kts_exm)
    (case kt7_2 => kit_is)
    (case xo7_2 => kts_exm)
    (case kt7_3 => kit_is)
    (case xo7_3 => kts_exm)
    (case kt7_4 => kit_is)
    (case xo7_4 => kts_exm)
    (case kt7_5 => kit_is)
    (case xo7_5 => kts_exm)
    (case kt7_6 => kit_is)
    (case xo7_6 => kts_exm)
    (case kt7_7 => kit_is)
    (case xo7_7 => kts_exm)
    (case kt7_8 => kit_is)
    (case xo7_8 => kts_exm)
    (case kt7_9 => kit_is)
    (case xo7_9 => kts_exm)
    (case kt7_10 => kit_is)
    (case xo7_10 => kts_exm)
    (case kt7_11 => kit_is)
    (case xo7_11 => kts_exm)
    (case kt7_12 => kit_is)
    (case xo7_12 => kts_exm)
    (case kt7_13 => kit_is)
    (case xo7_13 => kts_exm)
    (case kt7_14 => kit_is)
    (case xo7_14 => kts_exm)
    (case kt7_15 => kit_is)
    (case xo7_15 => kts_exm)
    (case kt7_16 => kit_is)
    (case xo7_16 => kts_exm)
    (case kt7_17 => kit_is)
    (case xo7_17 => kts_exm)
    (case xg8 => k_is)
    (case xk8 => k_is)
    (case xs8 => k_is)
    (case xd8 => k_is)
    (case xa8 => k_is)
    (case xm8 => k_is)
    (case fa8 => k_is)
    (case fp8 => k_is)
    (case rk8 => k_is)
    (case rx8 => k_exc)
    (case rt8 => k_is)
    (case kt8_0 => kit_is)
    (case xo8_0 => kts_exm)
    (case kt8_1 => kit_is)
    (case xo8_1 => kts_exm)
    (case kt8_2 => kit_is)
    (case xo8_2 => kts_exm)
    (case kt8_3 => kit_is)
    (case xo8_3 => kts_exm)
    (case kt8_4 => kit_is)
    (case xo8_4 => kts_exm)
    (case kt8_5 => kit_is)
    (case xo8_5 => kts_exm)
    (case kt8_6 => kit_is)
    (case xo8_6 => kts_exm)
    (case kt8_7 => kit_is)
    (case xo8_7 => kts_exm)
    (case kt8_8 => kit_is)
    (case xo8_8 => kts_exm)
    (case kt8_9 => kit_is)
    (case xo8_9 => kts_exm)
    (case kt8_10 => kit_is)
    (case xo8_10 => kts_exm)
    (case kt8_11 => kit_is)
    (case xo8_11 => kts_exm)
    (case kt8_12 => kit_is)
    (case xo8_12 => kts_exm)
    (case kt8_13 => kit_is)
    (case xo8_13 => kts_exm)
    (case kt8_14 => kit_is)
    (case xo8_14 => kts_exm)
    (case kt8_15 => kit_is)
    (case xo8_15 => kts_exm)
    (case kt8_16 => kit_is)
    (case xo8_16 => kts_exm)
    (case kt8_17 => kit_is)
    (case xo8_17 => kts_exm)
    (case xg9 => k_is)
    (case xk9 => k_is)
    (case xs9 => k_is)
    (case xd9 => k_is)
    (case xa9 => k_is)
    (case xm9 => k_is)
    (case fa9 => k_is)
    (case fp9 => k_is)
    (case rk9 => k_is)
    (case rx9 => k_exc)
    (case rt9 => k_is)
    (case kt9_0 => kit_is)
    (case xo9_0 => kts_exm)
    (case kt9_1 => kit_is)
    (case xo9_1 => kts_exm)
    (case kt9_2 => kit_is)
    (case xo9_2 => kts_exm)
    (case kt9_3 => kit_is)
    (case xo9_3 => kts_exm)
    (case kt9_4 => kit_is)
    (case xo9_4 => kts_exm)
    (case kt9_5 => kit_is)
    (case xo9_5 => kts_exm)
    (case kt9_6 => kit_is)
    (case xo9_6 => kts_exm)
    (case kt9_7 => kit_is)
    (case xo9_7 => kts_exm)
    (case kt9_8 => kit_is)
    (case xo9_8 => kts_exm)
    (case kt9_9 => kit_is)
    (case xo9_9 => kts_exm)
    (case kt9_10 => kit_is)
    (case xo9_10 => kts_exm)
    (case kt9_11 => kit_is)
    (case xo9_11 => kts_exm)
    (case kt9_12 => kit_is)
    (case xo9_12 => kts_exm)
    (case kt9_13 => kit_is)
    (case xo9_13 => kts_exm)
    (case kt9_14 => kit_is)
    (case xo9_14 => kts_exm)
    (case kt9_15 => kit_is)
    (case xo9_15 => kts_exm)
    (case kt9_16 => kit_is)
    (case xo9_16 => kts_exm)
    (case kt9_17 => kit_is)
    (case xo9_17 => kts_exm)
    (case xg10 => k_is)
    (case xk10 => k_is)
    (case xs10 => k_is)
    (case xd10 => k_is)
    (case xa10 => k_is)
    (case xm10 => k_is)
    (case fa10 => k_is)
    (case fp10 => k_is)
    (case rk10 => k_is)
    (case rx10 => k_exc)
    (case rt10 => k_is)
    (case kt10_0 => kit_is)
    (case xo10_0 => kts_exm)
    (case kt10_1 => kit_is)
    (case xo10_1 => kts_exm)
    (case kt10_2 => kit_is)
    (case xo10_2 => kts_exm)
    (case kt10_3 => kit_is)
    (case xo10_3 => kts_exm)
    (case kt10_4 => kit_is)
    (case xo10_4 => kts_exm)
    (case kt10_5 => kit_is)
    (case xo10_5 => kts_exm)
    (case kt10_6 => kit_is)
    (case xo10_6 => kts_exm)
    (case kt10_7 => kit_is)
    (case xo10_7 => kts_exm)
    (case kt10_8 => kit_is)
    (case xo10_8 => kts_exm)
    (case kt10_9 => kit_is)
    (case xo10_9 => kts_exm)
    (case kt10_10 => kit_is)
    (case xo10_10 => kts_exm)
    (case kt10_11 => kit_is)
    (case xo10_11 => kts_exm)
    (case kt10_12 => kit_is)
    (case xo10_12 => kts_exm)
    (case kt10_13 => kit_is)
    (case xo10_13 => kts_exm)
    (case kt10_14 => kit_is)
    (case xo10_14 => kts_exm)
    (case kt10_15 => kit_is)
    (case xo10_15 => kts_exm)
    (case kt10_16 => kit_is)
    (case xo10_16 => kts_exm)
    (case kt10_17 => kit_is)
    (case xo10_17 => kts_exm)
    (case xg11 => k_is)
    (case xk11 => k_is)
    (case xs11 => k_is)
    (case xd11 => k_is)
    (case xa11 => k_is)
    (case xm11 => k_is)
    (case fa11 => k_is)
    (case fp11 => k_is)
    (case rk11 => k_is)
    (case rx11 => k_exc)
    (case rt11 => k_is)
    (case kt11_0 => kit_is)
    (case xo11_0 => kts_exm)
    (case kt11_1 => kit_is)
    (case xo11_1 => kts_exm)
    (case kt11_2 => kit_is)
    (case xo11_2 => kts_exm)
    (case kt11_3 => kit_is)
    (case xo11_3 => kts_exm)
    (case kt11_4 => kit_is)
    (case xo11_4 => kts_exm)
    (case kt11_5 => kit_is)
    (case xo11_5 => kts_exm)
    (case kt11_6 => kit_is)
    (case xo11_6 => kts_exm)
    (case kt11_7 => kit_is)
    (case xo11_7 => kts_exm)
    (case kt11_8 => kit_is)
    (case xo11_8 => kts_exm)
    (case kt11_9 => kit_is)
    (case xo11_9 => kts_exm)
    (case kt11_10 => kit_is)
    (case xo11_10 => kts_exm)
    (case kt11_11 => kit_is)
    (case xo11_11 => kts_exm)
    (case kt11_12 => kit_is)
    (case xo11_12 => kts_exm)
    (case kt11_13 => kit_is)
    (case xo11_13 => kts_exm)
    (case kt11_14 => kit_is)
    (case xo11_14 => kts_exm)
    (case kt11_15 => kit_is)
    (case xo11_15 => kts_exm)
    (case kt11_16 => kit_is)
    (case xo11_16 => kts_exm)
    (case kt11_17 => kit_is)
    (case xo11_17 => kts_exm)
    (case xg12 => k_is)
    (case xk12 => k_is)
    (case xs12 => k_is)
    (case xd12 => k_is)
    (case xa12 => k_is)
    (case xm12 => k_is)
    (case fa12 => k_is)
    (case fp12 => k_is)
    (case rk12 => k_is)
    (case rx12 => k_exc)
    (case rt12 => k_is)
    (case kt12_0 => kit_is)
    (case xo12_0 => kts_exm)
    (case kt12_1 => kit_is)
    (case xo12_1 => kts_exm)
    (case kt12_2 => kit_is)
    (case xo12_2 => kts_exm)
    (case kt12_3 => kit_is)
    (case xo12_3 => kts_exm)
    (case kt12_4 => kit_is)
    (case xo12_4 => kts_exm)
    (case kt12_5 => kit_is)
    (case xo12_5 => kts_exm)
    (case kt12_6 => kit_is)
    (case xo12_6 => kts_exm)
    (case kt12_7 => kit_is)
    (case xo12_7 => kts_exm)
    (case kt12_8 => kit_is)
    (case xo12_8 => kts_exm)
    (case kt12_9 => kit_is)
    (case xo12_9 => kts_exm)
    (case kt12_10 => kit_is)
    (case xo12_10 => kts_exm)
    (case kt12_11 => kit_is)
    (case xo12_11 => kts_exm)
    (case kt12_12 => kit_is)
    (case xo12_12 => kts_exm)
    (case kt12_13 => kit_is)
    (case xo12_13 => kts_exm)
    (case kt12_14 => kit_is)
    (case xo12_14 => kts_exm)
    (case kt12_15 => kit_is)
    (case xo12_15 => kts_exm)
    (case kt12_16 => kit_is)
    (case xo12_16 => kts_exm)
    (case kt12_17 => kit_is)
    (case xo12_17 => kts_exm)
    (case xg13 => k_is)
    (case xk13 => k_is)
    (case xs13 => k_is)
    (case xd13 => k_is)
    (case xa13 => k_is)
    (case xm13 => k_is)
    (case fa13 => k_is)
    (case fp13 => k_is)
    (case rk13 => k_is)
    (case rx13 => k_exc)
    (case rt13 => k_is)
    (case kt13_0 => kit_is)
    (case xo13_0 => kts_exm)
    (case kt13_1 => kit_is)
    (case xo13_1 => kts_exm)
    (case kt13_2 => kit_is)
    (case xo13_2 => kts_exm)
    (case kt13_3 => kit_is)
    (case xo13_3 => kts_exm)
    (case kt13_4 => kit_is)
    (case xo13_4 => kts_exm)
    (case kt13_5 => kit_is)
    (case xo13_5 => kts_exm)
    (case kt13_6 => kit_is)
    (case xo13_6 => kts_exm)
    (case kt13_7 => kit_is)
    (case xo13_7 => kts_exm)
    (case kt13_8 => kit_is)
    (case xo13_8 => kts_exm)
    (case kt13_9 => kit_is)
    (case xo13_9 => kts_exm)
    (case kt13_10 => kit_is)
    (case xo13_10 => kts_exm)
    (case kt13_11 => kit_is)
    (case xo13_11 => kts_exm)
    (case kt13_12 => kit_is)
    (case xo13_12 => kts_exm)
    (case kt13_13 => kit_is)
    (case xo13_13 => kts_exm)
    (case kt13_14 => kit_is)
    (case xo13_14 => kts_exm)
    (case kt13_15 => kit_is)
    (case xo13_15 => kts_exm)
    (case kt13_16 => kit_is)
    (case xo13_16 => kts_exm)
    (case kt13_17 => kit_is)
    (case xo13_17 => kts_exm)
    (case xg14 => k_is)
    (case xk14 => k_is)
    (case xs14 => k_is)
    (case xd14 => k_is)
    (case xa14 => k_is)
    (case xm14 => k_is)
    (case fa14 => k_is)
    (case fp14 => k_is)
    (case rk14 => k_is)
    (case rt14 => k_is)
    (case sa14 => k_is)
    (case in14 => k_is)
    (case it14 => k_is)
    (case il14 => k_is)
    (case ic14 => k_is)
    (case ik14 => k_is)
    (case xl14 => k_is)
    (case kt14_0 => kit_is)
    (case xo14_0 => kts_exm)
    (case kt14_1 => kit_is)
    (case xo14_1 => kts_exm)
    (case kt14_2 => kit_is)
    (case xo14_2 => kts_exm)
    (case kt14_3 => kit_is)
    (case xo14_3 => kts_exm)
    (case kt14_4 => kit_is)
    (case xo14_4 => kts_exm)
    (case kt14_5 => kit_is)
    (case xo14_5 => kts_exm)
    (case kt14_6 => kit_is)
    (case xo14_6 => kts_exm)
    (case kt14_7 => kit_is)
    (case xo14_7 => kts_exm)
    (case kt14_8 => kit_is)
    (case xo14_8 => kts_exm)
    (case kt14_9 => kit_is)
    (case xo14_9 => kts_exm)
    (case kt14_10 => kit_is)
    (case xo14_10 => kts_exm)
    (case kt14_11 => kit_is)
    (case xo14_11 => kts_exm)
    (case kt14_12 => kit_is)
    (case xo14_12 => kts_exm)
    (case kt14_13 => kit_is)
    (case xo14_13 => kts_exm)
    (case kt14_14 => kit_is)
    (case xo14_14 => kts_exm)
    (case kt14_15 => kit_is)
    (case xo14_15 => kts_exm)
    (case kt14_16 => kit_is)
    (case xo14_16 => kts_exm)
    (case kt14_17 => kit_is)
    (case xo14_17 => kts_exm)
    (case xg15 => k_is)
    (case xk15 => k_is)
    (case xs15 => k_is)
    (case xd15 => k_is)
    (case xa15 => k_is)
    (case xm15 => k_is)
    (case fa15 => k_is)
    (case fp15 => k_is)
    (case rk15 => k_is)
    (case rt15 => k_is)
    (case sa15 => k_is)
    (case in15 => k_is)
    (case it15 => k_is)
    (case il15 => k_is)
    (case ic15 => k_is)
    (case ik15 => k_is)
    (case xl15 => k_is)
    (case kt15_0 => kit_is)
    (case xo15_0 => kts_exm)
    (case kt15_1 => kit_is)
    (case xo15_1 => kts_exm)
    (case kt15_2 => kit_is)
    (case xo15_2 => kts_exm)
    (case kt15_3 => kit_is)
    (case xo15_3 => kts_exm)
    (case kt15_4 => kit_is)
    (case xo15_4 => kts_exm)
    (case kt15_5 => kit_is)
    (case xo15_5 => kts_exm)
    (case kt15_6 => kit_is)
    (case xo15_6 => kts_exm)
    (case kt15_7 => kit_is)
    (case xo15_7 => kts_exm)
    (case kt15_8 => kit_is)
    (case xo15_8 => kts_exm)
    (case kt15_9 => kit_is)
    (case xo15_9 => kts_exm)
    (case kt15_10 => kit_is)
    (case xo15_10 => kts_exm)
    (case kt15_11 => kit_is)
    (case xo15_11 => kts_exm)
    (case kt15_12 => kit_is)
    (case xo15_12 => kts_exm)
    (case kt15_13 => kit_is)
    (case xo15_13 => kts_exm)
    (case kt15_14 => kit_is)
    (case xo15_14 => kts_exm)
    (case kt15_15 => kit_is)
    (case xo15_15 => kts_exm)
    (case kt15_16 => kit_is)
    (case xo15_16 => kts_exm)
    (case kt15_17 => kit_is)
    (case xo15_17 => kts_exm)
    (case xg16 => k_is)
    (case xk16 => k_is)
    (case xs16 => k_is)
    (case xd16 => k_is)
    (case xa16 => k_is)
    (case xm16 => k_is)
    (case fa16 => k_is)
    (case fp16 => k_is)
    (case rk16 => k_is)
    (case rt16 => k_is)
    (case sa16 => k_is)
    (case in16 => k_is)
    (case it16 => k_is)
    (case il16 => k_is)
    (case ic16 => k_is)
    (case ik16 => k_is)
    (case xl16 => k_is)
    (case kt16_0 => kit_is)
    (case xo16_0 => kts_exm)
    (case kt16_1 => kit_is)
    (case xo16_1 => kts_exm)
    (case kt16_2 => kit_is)
    (case xo16_2 => kts_exm)
    (case kt16_3 => kit_is)
    (case xo16_3 => kts_exm)
    (case kt16_4 => kit_is)
    (case xo16_4 => kts_exm)
    (case kt16_5 => kit_is)
    (case xo16_5 => kts_exm)
    (case kt16_6 => kit_is)
    (case xo16_6 => kts_exm)
    (case kt16_7 => kit_is)
    (case xo16_7 => kts_exm)
    (case kt16_8 => kit_is)
    (case xo16_8 => kts_exm)
    (case kt16_9 => kit_is)
    (case xo16_9 => kts_exm)
    (case kt16_10 => kit_is)
    (case xo16_10 => kts_exm)
    (case kt16_11 => kit_is)
    (case xo16_11 => kts_exm)
    (case kt16_12 => kit_is)
    (case xo16_12 => kts_exm)
    (case kt16_13 => kit_is)
    (case xo16_13 => kts_exm)
    (case kt16_14 => kit_is)
    (case xo16_14 => kts_exm)
    (case kt16_15 => kit_is)
    (case xo16_15 => kts_exm)
    (case kt16_16 => kit_is)
    (case xo16_16 => kts_exm)
    (case kt16_17 => kit_is)
    (case xo16_17 => kts_exm)
    (case xn => k_is)
    (case xt => k_is)
    (case ty0_0 => kit_is)
    (case ty1_0 => kit_is)
    (case ty2_0 => kit_is)
    (case ty3_0 => kit_is)
    (case ty4_0 => kit_is)
    (case ty5_0 => kit_is)
    (case ty0_1 => kit_is)
    (case ty1_1 => kit_is)
    (case ty2_1 => kit_is)
    (case ty3_1 => kit_is)
    (case ty4_1 => kit_is)
    (case ty5_1 => kit_is)
    (case ty0_2 => kit_is)
    (case ty1_2 => kit_is)
    (case ty2_2 => kit_is)
    (case ty3_2 => kit_is)
    (case ty4_2 => kit_is)
    (case ty5_2 => kit_is)
    (case ty0_3 => kit_is)
    (case ty1_3 => kit_is)
    (case ty2_3 => kit_is)
    (case ty3_3 => kit_is)
    (case ty4_3 => kit_is)
    (case ty5_3 => kit_is)
    (case ty0_4 => kit_is)
    (case ty1_4 => kit_is)
    (case ty2_4 => kit_is)
    (case ty3_4 => kit_is)
    (case ty4_4 => kit_is)
    (case ty5_4 => kit_is)
    (case ty0_5 => kit_is)
    (case ty1_5 => kit_is)
    (case ty2_5 => kit_is)
    (case ty3_5 => kit_is)
    (case ty4_5 => kit_is)
    (case ty5_5 => kit_is)
    (case ty0_6 => kit_is)
    (case ty1_6 => kit_is)
    (case ty2_6 => kit_is)
    (case ty3_6 => kit_is)
    (case ty4_6 => kit_is)
    (case ty5_6 => kit_is)
    (case ty0_7 => kit_is)
    (case ty1_7 => kit_is)
    (case ty2_7 => kit_is)
    (case ty3_7 => kit_is)
    (case ty4_7 => kit_is)
    (case ty5_7 => kit_is)
    (case ty0_8 => kit_is)
    (case ty1_8 => kit_is)
    (case ty2_8 => kit_is)
    (case ty3_8 => kit_is)
    (case ty4_8 => kit_is)
    (case ty5_8 => kit_is)
    (case ty0_9 => kit_is)
    (case ty1_9 => kit_is)
    (case ty2_9 => kit_is)
    (case ty3_9 => kit_is)
    (case ty4_9 => kit_is)
    (case ty5_9 => kit_is)
    (case ty0_10 => kit_is)
    (case ty1_10 => kit_is)
    (case ty2_10 => kit_is)
    (case ty3_10 => kit_is)
    (case ty4_10 => kit_is)
    (case ty5_10 => kit_is)
    (case ty0_11 => kit_is)
    (case ty1_11 => kit_is)
    (case ty2_11 => kit_is)
    (case ty3_11 => kit_is)
    (case ty4_11 => kit_is)
    (case ty5_11 => kit_is)
    (case ty0_12 => kit_is)
    (case ty1_12 => kit_is)
    (case ty2_12 => kit_is)
    (case ty3_12 => kit_is)
    (case ty4_12 => kit_is)
    (case ty5_12 => kit_is)
    (case ty0_13 => kit_is)
    (case ty1_13 => kit_is)
    (case ty2_13 => kit_is)
    (case ty3_13 => kit_is)
    (case ty4_13 => kit_is)
    (case ty5_13 => kit_is)
    (case ty0_14 => kit_is)
    (case ty1_14 => kit_is)
    (case ty2_14 => kit_is)
    (case ty3_14 => kit_is)
    (case ty4_14 => kit_is)
    (case ty5_14 => kit_is)
    (case ty0_15 => kit_is)
    (case ty1_15 => kit_is)
    (case ty2_15 => kit_is)
    (case ty3_15 => kit_is)
    (case ty4_15 => kit_is)
    (case ty5_15 => kit_is)
    (case ty0_16 => kit_is)
    (case ty1_16 => kit_is)
    (case ty2_16 => kit_is)
    (case ty3_16 => kit_is)
    (case ty4_16 => kit_is)
    (case ty5_16 => kit_is)
    (case ty0_17 => kit_is)
    (case ty1_17 => kit_is)
    (case ty2_17 => kit_is)
    (case ty3_17 => kit_is)
    (case ty4_17 => kit_is)
    (case ty5_17 => kit_is)
    (case br => k_is)
    (case bi => k_is)
    (case bg => k_is)
    (case zV => k_is)
    (case z0 => k_is)
    (case z1 => k_is)
    (case z2 => k_is)
    (case z3 => k_is)
    (case z4 => k_is)
    (case z5 => k_is)
    (case z6 => k_is)
    (case z7 => k_is)
    (case z8 => k_is)
    (case z9 => k_is)
    (case z10 => k_is)
    (case z11 => k_is)
    (case z12 => k_is)
    (case z13 => k_is)
    (case z14 => k_is)
    (case z15 => k_is)
    (case z16 => k_is)
    (case z17 => k_is)
end
