import PyProof.Rows.All
import Wide.All
import OpenK.AllK
import Wide.FinOn
import HandS.ForMost
import HandS.ForExc
import HandS.TupAny
import HandS.IsInst
import HandS.Wide
import HandS.Style
import HandS.Deep
import HandS.Rev
import HandS.RevTup
import HandS.Conv
import HandS.Zip
import HandS.SortKw
import HandS.TupLen
import HandS.ExcInit
import HandS.ExcField
import HandS.ExcIs
import HandS.ExcValue
import HandS.RaiseMore
import HandS.Text
import HandS.Small
import HandS.Flow
import KE.DataCmp
import KE.DataMinMax
import KE.SortData
import HandS.TupMul
import KE.KDictSum
import KE.KDictItemsList
import KE.DataFind
import KE.KDictPairs
import HandS.SetKeys
import HandS.Call
import KE.GoesMore
import HandS.DictSubView
import HandS.DictTup
import HandS.Walk
import HandS.TupSets
import KE.KDictDisplayH
import KE.KDictZip
import PyProof.ListNew
import KE.KDictCopyH
import PyProof.Rows.StrDigitsNeg
import KE.IntTextLaws
import PySem.Challenge.RW_fewstand_k06_families_looked_at
section
set_option maxHeartbeats 8000000
set_option Elab.async false
set_option linter.all false
set_option maxRecDepth 100000
/-! A small evaluator over data, sound for the model: what is evaluated. -/
namespace Ev
open PySem L2

/-- what a field holds -/
inductive Fd where
  | sh (d : PyData)
  | lst (ds : List PyData)
  | dct (t : Bool) (kvs : List (PyData × PyData))
/-- what a name holds: nothing that is known, shared data, a list of its own, an object, an object that is only read -/
inductive Slot where
  | non
  | sh (d : PyData)
  | lst (ds : List PyData)
  | dct (t : Bool) (kvs : List (PyData × PyData))
  | obj (c : Nat) (fs : List (Str × Fd))
  | rob (c : Nat) (fs : List (Str × Fd))
  | ll (t : Bool) (dss : List (List PyData))
  | dd (kss : List (PyData × List (PyData × PyData)))
  | tl (d : PyData) (ds : List PyData)
def Fd.slot : Fd → Slot
  | .sh d => .sh d
  | .lst ds => .lst ds
  | .dct t kvs => .dct t kvs
/-- the data of a field -/
def Fd.data : Fd → PyData
  | .sh d => d
  | .lst ds => .list ds
  | .dct t kvs => .dict ((.bool t, .none) :: kvs)
def Slot.fd : Slot → Option Fd
  | .sh d => some (.sh d)
  | .lst ds => some (.lst ds)
  | .dct t kvs => some (.dct t kvs)
  | _ => none
def putFd (f : Str) (x : Fd) : List (Str × Fd) → List (Str × Fd)
  | [] => [(f, x)]
  | (g, y) :: r => if g = f then (g, x) :: r else (g, y) :: putFd f x r
def isRob : Slot → Bool
  | .rob _ _ => true
  | _ => false

abbrev Ro := List Slot

/-- how an evaluation ends -/
inductive R (A : Type) where
  | ok (a : A) (r : Ro)
  | ex (c : Nat) (fs : List (PyData × PyData)) (r : Ro)
  | bad

def R.bind {A B : Type} (x : R A) (f : A → Ro → R B) : R B :=
  match x with
  | .ok a r => f a r
  | .ex c fs r => .ex c fs r
  | .bad => .bad

inductive Op where
  | add | sub | mul | fdiv | mod | pow | neg
  | eq | ne | lt | le | gt | ge | is_ | isnot | in_ | notin
  | item | len | max2 | min2 | int_ | list_ | tuple_ | sorted | isi (t : String) | sum | sl (lo hi : Bool) | rev
  | isc (cs : List Nat) | fld (f : String) | all_ | any_ | get | maxd | lrng | repr | str_ | lset | sset | trng | idx | dict_ (t : Bool) | shl | shr | bor | band | and0 | lzip | or0 | lrng2 | rev2 | vals | maxT | spl | joi | stw
  deriving DecidableEq

mutual
inductive CE where
  | var (i : Nat)
  | cst (d : PyData)
  | glob (x : Str) (d : PyData)
  | op (o : Op) (es : CEs)
  | tup (es : CEs)
  | lst (es : CEs)
  | not (a : CE)
  | and (a b : CE)
  | or (a b : CE)
  | chain (o p : Op) (a b c : CE)
  | chain3 (o p q : Op) (a b c d : CE)
  | lc (elt : CE) (tg : CT) (it : CI) (cond : CEs) (own : List (Str × Nat))
  | call (f : Nat) (es : CEs)
  | ref (i : Nat)
  | own (a : CE)
  | pop (i : Nat) (a : CE)
  | shr (i : Nat)
  | dnew (t : Bool)
  | xop (o : Op) (es : CEs)
  | meth (o : Op) (i : Nat) (es : CEs)
  | sl2 (a lo hi : CE)
  | xnew (c : Nat) (f : String) (a : CE)
  | dsp (t : Bool) (k v : CE)
  | mk (c f : Nat) (es : CEs)
  | mcall (c : Nat) (m : Str) (f : Nat) (a : CE) (es : CEs)
  | fld (c i : Nat) (f : Str)
  | opf (o : Op) (c i : Nat) (f : Str)
  | pop0 (i : Nat)
  | callF (f : Nat) (es : CEs)
  | ll0 (n : Nat)
  | ddn
  | get0 (i : Nat) (k : CE)
  | fnc (k : Nat)
  | callV (i : Nat) (es : CEs)
  | nn (b : Bool) (i : Nat)
  | callT (f : Nat) (es : CEs)
  | callB (f : Nat) (es : CEs)
  | snd (i : Nat)
  | tlFst (i : Nat)
  | tlPop0 (i : Nat)
inductive CEs where
  | nil
  | cons (e : CE) (es : CEs)
inductive CI where
  | seq (a : CE)
  | rng1 (a : CE)
  | rng2 (a b : CE)
  | rng3 (a b c : CE)
  | prs (z : Bool) (es : CEs)
  | its (a : CE)
inductive CT where
  | name (i : Nat)
  | tup (ts : CTs)
inductive CTs where
  | nil
  | cons (t : CT) (ts : CTs)
end

mutual
inductive CS where
  | set (t : CT) (e : CE)
  | setLc (i : Nat) (e : CE)
  | move (i j : Nat)
  | aug (i : Nat) (o : Op) (e : CE)
  | ite (c : CE) (a b : CSs)
  | for_ (t : CT) (it : CI) (b : CSs)
  | while_ (c : CE) (b : CSs)
  | ret (e : CE)
  | expr (e : CE)
  | append (i : Nat) (e : CE)
  | extend (i : Nat) (e : CE)
  | setItem (i : Nat) (k e : CE)
  | pass
  | raise_ (c : Nat) (f : String) (es : CEs)
  | retP (i j : Nat)
  | setP (y z : Nat) (e : CE)
  | try_ (b : CSs) (cs : List Nat) (i x : Nat)
  | tryS (b : CSs) (cs : List Nat) (i : Nat) (s : CSs)
  | forD (t : CT) (i : Nat) (b : CSs)
  | par (i j : Nat) (a b : CE)
  | fput (c i : Nat) (f : Str) (e : CE)
  | fapp (c i : Nat) (f : Str) (e : CE)
  | appL (i : Nat) (k e : CE)
  | forF (c : Nat) (t : CT) (i : Nat) (f : Str) (b : CSs)
  | rem (i : Nat) (e : CE)
  | rev_ (i : Nat)
  | setdef (i : Nat) (k e : CE)
  | tlApp (i : Nat) (e : CE)
  | tlRev (i : Nat)
  | tlClr (i : Nat)
inductive CSs where
  | nil
  | cons (s : CS) (ss : CSs)
  | sub (i j : Nat) (k : CE) (ss : CSs)
end

def CTs.len : CTs → Nat
  | .nil => 0
  | .cons _ ts => ts.len + 1
def CEs.len : CEs → Nat
  | .nil => 0
  | .cons _ es => es.len + 1

inductive Fl where
  | nx
  | ret (s : Slot)

def flRob : Fl → Bool
  | .ret s => isRob s
  | .nx => false
/-- what a def gives back: a value (or an error) and what its arguments are now -/
inductive FR where
  | ret (s : Slot) (outs : Ro)
  | ex (c : Nat) (fs : List (PyData × PyData)) (outs : Ro)
  | bad

def small (n : Nat) : Bool := decide (n ≤ 16777216)
def shp (d : PyData) : Bool := SeqAt.shaped d

/-- a dict as data: t tells whether its keys are tuples -/
def dictD (t : Bool) (kvs : List (PyData × PyData)) : PyData := .dict ((.bool t, .none) :: kvs)
/-- an error as data: its class, its fields -/
def excD (c : Nat) (fs : List (PyData × PyData)) : PyData := .dict ((.none, .int c) :: fs)
/-- a def as data -/
def fnD (k : Nat) : PyData := .dict [(.int k, .none)]
/-- a dict of dicts as data -/
def ddD (kss : List (PyData × List (PyData × PyData))) : PyData := dictD false (kss.map fun q => (q.1, dictD true q.2))
def key1 : PyData → Bool
  | .int _ => true
  | .str _ => true
  | _ => false
def isKey : Bool → PyData → Bool
  | false, d => key1 d
  | true, .tuple ds => ds.all key1
  | true, _ => false
def key1eq : PyData → PyData → Bool
  | .int i, .int j => decide (i = j)
  | .str i, .str j => decide (i = j)
  | _, _ => false
def keysEq : List PyData → List PyData → Bool
  | [], [] => true
  | a :: as, b :: bs => key1eq a b && keysEq as bs
  | _, _ => false
def keq : PyData → PyData → Bool
  | .tuple as, .tuple bs => keysEq as bs
  | a, b => key1eq a b
def lookD (k : PyData) : List (PyData × PyData) → Option PyData
  | [] => none
  | (a, b) :: l => if keq a k = true then some b else lookD k l
def putD (k v : PyData) (kvs : List (PyData × PyData)) : List (PyData × PyData) :=
  if (lookD k kvs).isSome = true then kvs.map (fun kv => if keq kv.1 k = true then (kv.1, v) else kv) else kvs ++ [(k, v)]

/-- the same where dicts of dicts are -/
def lookDD (k : PyData) : List (PyData × List (PyData × PyData)) → Option (List (PyData × PyData))
  | [] => none
  | (a, b) :: l => if keq a k = true then some b else lookDD k l
def putDD (k : PyData) (v : List (PyData × PyData)) : List (PyData × List (PyData × PyData)) → List (PyData × List (PyData × PyData))
  | [] => [(k, v)]
  | (a, b) :: l => if keq a k = true then (a, v) :: l else (a, b) :: putDD k v l

/-! the built-in operations, by data -/
def pAdd : List PyData → Option Slot
  | [.int i, .int j] => some (.sh (.int (i + j)))
  | [.list a, .list b] => if small (a.length + b.length) then some (.lst (a ++ b)) else none
  | [.tuple a, .tuple b] => if small (a.length + b.length) then some (.sh (.tuple (a ++ b))) else none
  | [.str a, .str b] => if small (a.length + b.length) then some (.sh (.str (a ++ b))) else none
  | _ => none
def pSub : List PyData → Option Slot
  | [.int i, .int j] => some (.sh (.int (i - j)))
  | _ => none
def pMul : List PyData → Option Slot
  | [.list a, .int j] => if (decide (-1000000 < j) && decide (j < 1000000) && small (a.length * j.toNat)) = true then some (.lst (List.replicate j.toNat a).flatten) else none
  | [.int i, .int j] => if (decide (i.natAbs < 2 ^ 64) || decide (j.natAbs < 2 ^ 64)) = true then some (.sh (.int (i * j))) else none
  | [.tuple a, .int j] => if (!a.isEmpty && (decide (-1000 ≤ j) && (decide (j ≤ 1000) && decide (a.length ≤ 1000)))) = true then some (.sh (.tuple (List.replicate j.toNat a).flatten)) else none
  | _ => none
def pFdiv : List PyData → Option Slot
  | [.int i, .int j] => if (decide (0 < j) && decide (j < 1000000000000000000000000000000)) = true then some (.sh (.int (i / j))) else none
  | _ => none
def pMod : List PyData → Option Slot
  | [.int i, .int j] => if decide (0 < j) = true then some (.sh (.int (i % j))) else none
  | _ => none
def pPow : List PyData → Option Slot
  | [.int i, .int j] => if (decide (0 ≤ j) && decide (j ≤ 1000000) && decide (i.natAbs < 2 ^ 64)) = true then some (.sh (.int (i ^ j.toNat))) else none
  | _ => none
def pNeg : List PyData → Option Slot
  | [.int i] => some (.sh (.int (-i)))
  | _ => none
def pEq : List PyData → Option Slot
  | [.str a, .str b] => some (.sh (.bool (a == b)))
  | [a, b] => if (shp a && shp b) = true then some (.sh (.bool (PyData.eqv a b))) else none
  | _ => none
def pNe : List PyData → Option Slot
  | [.str a, .str b] => some (.sh (.bool (!(a == b))))
  | [a, b] => if (shp a && shp b) = true then some (.sh (.bool (!PyData.eqv a b))) else none
  | _ => none
/-- whether two tuples can be compared -/
def cmpOk (a b : List PyData) : Bool := shp (.tuple a) && shp (.tuple b) && PySem.W.alike (.tuple a) (.tuple b)
def pLt : List PyData → Option Slot
  | [.int i, .int j] => some (.sh (.bool (decide (i < j))))
  | [.tuple a, .tuple b] => if cmpOk a b = true then some (.sh (.bool (PySem.W.dataLt (.tuple a) (.tuple b)))) else none
  | _ => none
def pLe : List PyData → Option Slot
  | [.int i, .int j] => some (.sh (.bool (decide (i ≤ j))))
  | [.tuple a, .tuple b] => if cmpOk a b = true then some (.sh (.bool (!PySem.W.dataLt (.tuple b) (.tuple a)))) else none
  | _ => none
def pGt : List PyData → Option Slot
  | [.int i, .int j] => some (.sh (.bool (decide (j < i))))
  | [.tuple a, .tuple b] => if cmpOk a b = true then some (.sh (.bool (PySem.W.dataLt (.tuple b) (.tuple a)))) else none
  | _ => none
def pGe : List PyData → Option Slot
  | [.int i, .int j] => some (.sh (.bool (decide (j ≤ i))))
  | [.tuple a, .tuple b] => if cmpOk a b = true then some (.sh (.bool (!PySem.W.dataLt (.tuple a) (.tuple b)))) else none
  | _ => none
def pLen : List PyData → Option Slot
  | [.list a] => some (.sh (.int a.length))
  | [.tuple a] => some (.sh (.int a.length))
  | [.dict [(.none, .list a)]] => some (.sh (.int a.length))
  | [.dict ((.bool t, .none) :: kvs)] => some (.sh (.int kvs.length))
  | [.str z] => if small z.length = true then some (.sh (.int z.length)) else none
  | _ => none
def pItem : List PyData → Option Slot
  | [.list a, .int i] => (atI a i).map .sh
  | [.tuple a, .int i] => (atI a i).map .sh
  | [.dict [(.none, .list a)], .int i] => (atI a i).map .sh
  | [.dict ((.bool t, .none) :: kvs), k] => if isKey t k = true then (lookD k kvs).map .sh else none
  | [.str z, .int i] => if small z.length = true then (atI z.cps.toList i).map (fun c => .sh (.str ⟨#[c]⟩)) else none
  | _ => none
/-- ints that are held as data -/
def intsD : List PyData → Option (List Int)
  | [] => some []
  | .int i :: ds => (intsD ds).map (i :: ·)
  | _ => none
def maxI : Int → List Int → Int
  | m, [] => m
  | m, n :: ns => maxI (if n > m then n else m) ns
def minI : Int → List Int → Int
  | m, [] => m
  | m, n :: ns => minI (if n < m then n else m) ns
def pMax2 : List PyData → Option Slot
  | [.int i, .int j] => some (.sh (.int (if j > i then j else i)))
  | [.list ds] => match intsD ds with
    | some (n :: ns) => some (.sh (.int (maxI n ns)))
    | _ => none
  | _ => none
def pMin2 : List PyData → Option Slot
  | [.int i, .int j] => some (.sh (.int (if j < i then j else i)))
  | [.list ds] => match intsD ds with
    | some (n :: ns) => some (.sh (.int (minI n ns)))
    | _ => none
  | _ => none
def pMaxd : List PyData → Option Slot
  | [.list ds] => match intsD ds with
    | some (n :: ns) => some (.sh (.int (ns.foldl max n)))
    | some [] => some (.sh .none)
    | none => none
  | _ => none
def pSum : List PyData → Option Slot
  | [.list ds] => (intsD ds).map fun ns => .sh (.int ns.sum)
  | [.tuple ds] => (intsD ds).map fun ns => .sh (.int ns.sum)
  | _ => none
/-- the items of ds[lo:hi] -/
def cutD (ds : List PyData) (lo hi : Option Int) : List PyData := (ds.drop (HT.sIx ds.length 0 lo)).take (HT.sIx ds.length ds.length hi - HT.sIx ds.length 0 lo)
def cutP (d : PyData) (lo hi : Option Int) : Option Slot := match d with
  | .list ds => some (.lst (cutD ds lo hi))
  | .tuple ds => some (.sh (.tuple (cutD ds lo hi)))
  | .str z => if small z.length = true then some (.sh (.str (cutS z lo hi))) else none
  | _ => none
def pSl (bl bh : Bool) : List PyData → Option Slot
  | [d, .int i] => if (bl && !bh) = true then cutP d (some i) none else if (!bl && bh) = true then cutP d none (some i) else none
  | [d, .int i, .int j] => if (bl && bh) = true then cutP d (some i) (some j) else none
  | _ => none
def pRev : List PyData → Option Slot
  | [.list ds] => some (.lst ds.reverse)
  | [.tuple ds] => some (.sh (.tuple ds.reverse))
  | _ => none
def isNon : PyData → Bool
  | .none => true
  | _ => false
def pIs : List PyData → Option Slot
  | [d, .none] => some (.sh (.bool (isNon d)))
  | [.bool a, .bool b] => some (.sh (.bool (decide (a = b))))
  | _ => none
def pIsnot : List PyData → Option Slot
  | [d, .none] => some (.sh (.bool (!isNon d)))
  | [.bool a, .bool b] => some (.sh (.bool (!decide (a = b))))
  | _ => none
def flatD : PyData → Bool
  | .none => true
  | .bool _ => true
  | .int _ => true
  | .str _ => true
  | _ => false
def inD (d : PyData) (ds : List PyData) : Bool := ds.any fun z => PyData.eqv z d
def isDctD : PyData → Bool
  | .dict ((.bool _, .none) :: _) => true
  | _ => false
def isIntD : PyData → Bool
  | .int _ => true
  | _ => false
/-- a text of one sign -/
def sgnD (z : Str) : Option Nat := match z.cps.toList with
  | [c] => some c
  | _ => none
def pIn : List PyData → Option Slot
  | [d, .dict ((.bool t, .none) :: kvs)] => if isKey t d = true then some (.sh (.bool (lookD d kvs).isSome)) else none
  | [d, .list ds] => if (shp d && shp (.list ds)) = true then some (.sh (.bool (inD d ds))) else if (flatD d && ds.all flatD) = true then some (.sh (.bool (inD d ds))) else none
  | [d, .tuple ds] => if (shp d && shp (.tuple ds)) = true then some (.sh (.bool (inD d ds))) else if (isDctD d && ds.all isIntD) = true then some (.sh (.bool false)) else none
  | [.str z, .str y] => (sgnD z).map fun c => .sh (.bool (decide (c ∈ y.cps.toList)))
  | _ => none
def pNotin : List PyData → Option Slot
  | [d, .dict ((.bool t, .none) :: kvs)] => if isKey t d = true then some (.sh (.bool (!(lookD d kvs).isSome))) else none
  | [d, .list ds] => if (shp d && shp (.list ds)) = true then some (.sh (.bool (!inD d ds))) else if (flatD d && ds.all flatD) = true then some (.sh (.bool (!inD d ds))) else none
  | [d, .tuple ds] => if (shp d && shp (.tuple ds)) = true then some (.sh (.bool (!inD d ds))) else none
  | [.str z, .str y] => (sgnD z).map fun c => .sh (.bool (!decide (c ∈ y.cps.toList)))
  | _ => none
def pList : List PyData → Option Slot
  | [.list a] => some (.lst a)
  | [.tuple a] => some (.lst a)
  | _ => none
def pTuple : List PyData → Option Slot
  | [.list a] => some (.sh (.tuple a))
  | [.tuple a] => some (.sh (.tuple a))
  | _ => none
def pInt : List PyData → Option Slot
  | [.int i] => some (.sh (.int i))
  | [.bool b] => some (.sh (.int (if b then 1 else 0)))
  | [.str z] => if decide (z.length ≤ 640) = true then (PySem.intText? z).map (fun n => .sh (.int n)) else none
  | _ => none
/-- texts that are held as data -/
def strsD : List PyData → Option (List Str)
  | [] => some []
  | .str i :: ds => (strsD ds).map (i :: ·)
  | _ => none
/-- s.split(t) -/
def pSpl : List PyData → Option Slot
  | [.str a, .str b] => if (!(b.length == 0) && decide (a.length + 2 ≤ 16777216)) = true then some (.lst ((PySem.Txt.split a b).map PyData.str)) else none
  | _ => none
/-- s.join(some) -/
def pJoi : List PyData → Option Slot
  | [.str a, .list ds] => (match strsD ds with
    | some ys => if decide ((ys.map (·.length)).sum + ys.length * a.length ≤ 16777216) = true then some (.sh (.str (PySem.Txt.join a ys))) else none
    | none => none)
  | [.str a, .tuple ds] => (match strsD ds with
    | some ys => if decide ((ys.map (·.length)).sum + ys.length * a.length ≤ 16777216) = true then some (.sh (.str (PySem.Txt.join a ys))) else none
    | none => none)
  | _ => none
/-- s.startswith(t) -/
def pStw : List PyData → Option Slot
  | [.str a, .str b] => some (.sh (.bool (PySem.Txt.startswith a b)))
  | _ => none
def leD (x y : PyData) : Bool := !PySem.W.dataLt y x
def alikeB (ds : List PyData) : Bool := ds.all fun a => ds.all fun b => PySem.W.alike a b
def neTup : PyData → Bool
  | .tuple (_ :: _) => true
  | _ => false
def noTup : PyData → Bool
  | .tuple _ => false
  | .none => false
  | _ => true
def isE : PyData → Bool
  | .tuple [] => true
  | _ => false
def emp1 (ds : List PyData) : Bool := ds.all isE
def sortB (ds : List PyData) : Bool := alikeB ds && (ds.all neTup || (ds.all noTup || emp1 ds)) && ds.all fun d => d.canLay0 && decide (d.depth ≤ 60)
def pSorted : List PyData → Option Slot
  | [.list ds] => if sortB ds = true then some (.lst (ds.mergeSort leD)) else none
  | [.tuple ds] => if sortB ds = true then some (.lst (ds.mergeSort leD)) else none
  | [.dict ((.bool t, .none) :: kvs)] => if sortB (kvs.map (·.1)) = true then some (.lst ((kvs.map (·.1)).mergeSort leD)) else none
  | _ => none
/-- whether data is of a built-in class -/
def tyD : PyData → String → Option Bool
  | .none, t => if t = "int" ∨ t = "bool" ∨ t = "str" ∨ t = "list" ∨ t = "tuple" ∨ t = "dict" then some false else none
  | .bool _, t => if t = "int" ∨ t = "bool" then some true else if t = "str" ∨ t = "list" ∨ t = "tuple" ∨ t = "dict" then some false else none
  | .int _, t => if t = "int" then some true else if t = "bool" ∨ t = "str" ∨ t = "list" ∨ t = "tuple" ∨ t = "dict" then some false else none
  | .str _, t => if t = "str" then some true else if t = "bool" ∨ t = "int" ∨ t = "list" ∨ t = "tuple" ∨ t = "dict" then some false else none
  | .list _, t => if t = "list" then some true else if t = "bool" ∨ t = "str" ∨ t = "int" ∨ t = "tuple" ∨ t = "dict" then some false else none
  | .tuple _, t => if t = "tuple" then some true else if t = "bool" ∨ t = "str" ∨ t = "list" ∨ t = "int" ∨ t = "dict" then some false else none
  | .dict ((.bool _, .none) :: _), t => if t = "dict" then some true else if t = "bool" ∨ t = "str" ∨ t = "list" ∨ t = "int" ∨ t = "tuple" then some false else none
  | .dict _, _ => none
def pIsi (t : String) : List PyData → Option Slot
  | [d] => (tyD d t).map fun b => .sh (.bool b)
  | _ => none
/-- tuples of ints that are held as data -/
def tupsD : List PyData → Option (List (List Int))
  | [] => some []
  | .tuple t :: ds => (match intsD t with
    | some k => (tupsD ds).map (k :: ·)
    | none => none)
  | _ => none
/-- each once -/
def dist {A : Type} [DecidableEq A] : List A → List A
  | [] => []
  | x :: xs => if x ∈ xs then dist xs else x :: dist xs
/-- a tuple of ints -/
def tupI (k : List Int) : PyData := .tuple (k.map PyData.int)
/-- a tuple of ints with an int -/
def prI (p : List Int × Int) : PyData := .tuple [tupI p.1, .int p.2]
/-- a pair of a tuple of ints and an int that is held as data -/
def prD : PyData → Option (List Int × Int)
  | .tuple [.tuple t, .int w] => (intsD t).map fun k => (k, w)
  | _ => none
/-- such pairs -/
def prsD : List PyData → Option (List (List Int × Int))
  | [] => some []
  | d :: ds => (match prD d with
    | some p => (prsD ds).map (p :: ·)
    | none => none)
def pLset : List PyData → Option Slot
  | [.list ds] => if decide (ds.length < 77) = true then (match intsD ds with
    | some ns => some (.sh (.int ((dist ns).length : Nat)))
    | none => (match tupsD ds with
      | some ks => some (.sh (.int ((dist ks).length : Nat)))
      | none => (match prsD ds with
        | some ps => some (.sh (.int ((dist ps).length : Nat)))
        | none => none))) else none
  | _ => none
/-- unlike ints, sorted -/
def ssetI (ns : List Int) : List Int := (dist ns).mergeSort fun a b => decide (a ≤ b)
def pSset : List PyData → Option Slot
  | [.list ds] => if decide (ds.length < 77) = true then (match intsD ds with
    | some ns => if decide (ns.length < 64) = true then some (.lst ((ssetI ns).map PyData.int)) else none
    | none => (match tupsD ds with
      | some ks => if sortB ds = true then some (.lst (((dist ks).map tupI).mergeSort leD)) else none
      | none => (match prsD ds with
        | some ps => if sortB ds = true then some (.lst (((dist ps).map prI).mergeSort leD)) else none
        | none => none))) else none
  | _ => none
/-- the pairs of a dict -/
def pairL (kvs : List (PyData × PyData)) : List PyData := kvs.map fun kv => .tuple [kv.1, kv.2]
def pTrng : List PyData → Option Slot
  | [.int b] => if (decide (-1000000000 ≤ b) && decide (b ≤ 16777216)) = true then some (.sh (.tuple ((List.range b.toNat).map fun (k : Nat) => PyData.int (k : Int)))) else none
  | [.int a, .int b] => if (decide (-1000000000 ≤ a) && decide (a ≤ 1000000000) && decide (-1000000000 ≤ b) && decide (b ≤ 1000000000) && small (b - a).toNat) = true then some (.sh (.tuple ((List.range (b - a).toNat).map fun (k : Nat) => PyData.int (a + (k : Int))))) else none
  | _ => none
/-- `x and x[0]` of None or of a tuple with a whole number ahead -/
def pAnd0 : List PyData → Option Slot
  | [.none] => some (.sh .none)
  | [.tuple (.int x :: _)] => some (.sh (.int x))
  | _ => none
/-- `x or 0` of None or of a whole number -/
def pOr0 : List PyData → Option Slot
  | [.none] => some (.sh (.int 0))
  | [.int x] => some (.sh (.int x))
  | _ => none
def pLrng2 : List PyData → Option Slot
  | [.int a, .int b] => if (decide (-1000000000 ≤ a) && decide (a ≤ 1000000000) && decide (-1000000000 ≤ b) && decide (b ≤ 1000000000) && small (b - a).toNat) = true then some (.lst ((List.range (b - a).toNat).map fun (k : Nat) => PyData.int (a + (k : Int)))) else none
  | _ => none
/-- all but the last item, turned about -/
def pRev2 : List PyData → Option Slot
  | [.list ds] => some (.lst ds.dropLast.reverse)
  | _ => none
/-- the greatest of data that can be sorted, the first of them -/
def mxD (x : PyData) (xs : List PyData) : PyData := xs.foldl (fun a y => if PySem.W.dataLt a y then y else a) x
def pMaxT : List PyData → Option Slot
  | [.list (x :: xs)] => if ((x :: xs).all neTup && sortB (x :: xs)) = true then some (.sh (mxD x xs)) else none
  | _ => none
/-- the values of a dict -/
def pVals : List PyData → Option Slot
  | [.dict ((.bool t, .none) :: kvs)] => if small kvs.length = true then some (.lst (kvs.map (·.2))) else none
  | _ => none
/-- the pairs of two lists -/
def pLzip : List PyData → Option Slot
  | [.list a, .list b] => if decide (a.length ≤ 16777216) = true then some (.lst (List.zipWith (fun x y => PyData.tuple [x, y]) a b)) else none
  | _ => none
/-- where data stands first -/
def idxD (ds : List PyData) (d : PyData) : Option Nat := ds.findIdx? fun z => PyData.eqv z d
def pIdx : List PyData → Option Slot
  | [.list ds, d] => if (shp (.list ds) && shp d) = true then (idxD ds d).map (fun (n : Nat) => Slot.sh (.int (n : Int))) else none
  | _ => none
/-- the pairs that a list holds -/
def pairsD (t : Bool) : List PyData → Option (List (PyData × PyData))
  | [] => some []
  | .tuple [k, v] :: ds => if isKey t k = true then (pairsD t ds).map ((k, v) :: ·) else none
  | _ => none
def putAll (kvs ps : List (PyData × PyData)) : List (PyData × PyData) := ps.foldl (fun acc p => putD p.1 p.2 acc) kvs
def pDict (t : Bool) : List PyData → Option Slot
  | [.list ds] => (pairsD t ds).map fun ps => .dct t (putAll [] ps)
  | _ => none
def pShl : List PyData → Option Slot
  | [.int i, .int j] => if (decide (0 ≤ j) && decide (j ≤ 1000000) && decide (i.natAbs < 2 ^ 64)) = true then some (.sh (.int (i * 2 ^ j.toNat))) else none
  | _ => none
def pShr : List PyData → Option Slot
  | [.int i, .int j] => if decide (0 ≤ j) = true then some (.sh (.int (i / 2 ^ j.toNat))) else none
  | _ => none
def pBor : List PyData → Option Slot
  | [.int i, .int j] => some (.sh (.int (Builtin.bitOr i j)))
  | _ => none
def pBand : List PyData → Option Slot
  | [.int i, .int j] => some (.sh (.int (Builtin.bitAnd i j)))
  | _ => none
def pLrng : List PyData → Option Slot
  | [.int n] => if (decide (-1000000000 ≤ n) && decide (n ≤ 16777216)) = true then some (.lst ((List.range n.toNat).map fun (k : Nat) => PyData.int (k : Int))) else none
  | _ => none
/-- whether data is an error of some classes -/
def pIsc (cs : List Nat) : List PyData → Option Slot
  | [.none] => some (.sh (.bool false))
  | [.bool _] => some (.sh (.bool false))
  | [.int _] => some (.sh (.bool false))
  | [.str _] => some (.sh (.bool false))
  | [.list _] => some (.sh (.bool false))
  | [.tuple _] => some (.sh (.bool false))
  | [.dict ((.none, .int c) :: _)] => some (.sh (.bool (cs.any fun k => decide ((k : Int) = c))))
  | _ => none
def fldD (f : Str) : List (PyData × PyData) → Option PyData
  | (.str g, x) :: l => if decide (g = f) = true then some x else fldD f l
  | _ => none
def pFld (f : String) : List PyData → Option Slot
  | [.dict ((.none, .int _) :: fs)] => (fldD (Str.ofString f) fs).map .sh
  | _ => none
def boolsD : List PyData → Option (List Bool)
  | [] => some []
  | .bool i :: ds => (boolsD ds).map (i :: ·)
  | _ => none
def pAll : List PyData → Option Slot
  | [.list ds] => (boolsD ds).map fun bs => .sh (.bool (bs.all id))
  | _ => none
def pAny : List PyData → Option Slot
  | [.list ds] => (boolsD ds).map fun bs => .sh (.bool (bs.any id))
  | _ => none
/-- data that nobody can change -/
def isImm : PyData → Bool
  | .list _ => false
  | .dict _ => false
  | _ => true
def pGet : List PyData → Option Slot
  | [.dict ((.bool t, .none) :: kvs), k] => if isKey t k = true then some (.sh ((lookD k kvs).getD .none)) else none
  | [.dict ((.bool t, .none) :: kvs), k, d] => if (isKey t k && isImm d) = true then some (.sh ((lookD k kvs).getD d)) else none
  | _ => none
mutual
/-- data whose dicts are empty -/
def okEmp : PyData → Bool
  | .none => true
  | .bool _ => true
  | .int _ => true
  | .str _ => true
  | .list ds => okEmpA ds
  | .tuple ds => okEmpA ds
  | .dict [(.bool _, .none)] => true
  | _ => false
def okEmpA : List PyData → Bool
  | [] => true
  | d :: ds => okEmp d && okEmpA ds
end
mutual
/-- .. their marks left out -/
def clr : PyData → PyData
  | .list ds => .list (clrA ds)
  | .tuple ds => .tuple (clrA ds)
  | .dict _ => .dict []
  | d => d
def clrA : List PyData → List PyData
  | [] => []
  | d :: ds => clr d :: clrA ds
end
/-- what repr tells -/
def pRepr : List PyData → Option Slot
  | [d] => if (shp d && d.showable && small d.shown.length) = true then some (.sh (.str d.shown)) else (match d with
    | .dict [(.bool _, .none)] => some (.sh (.str (Str.ofString "{}")))
    | .list [.dict [(.bool _, .none)]] => some (.sh (.str (Str.ofString "[{}]")))
    | .list (x :: xs) => if (okEmp (.list (x :: xs)) && (clr (.list (x :: xs))).showable && decide ((clr (.list (x :: xs))).depth ≤ 60) && small (clr (.list (x :: xs))).shown.length) = true then some (.sh (.str (clr (.list (x :: xs))).shown)) else none
    | .tuple xs => if (okEmp (.tuple xs) && (clr (.tuple xs)).showable && decide ((clr (.tuple xs)).depth ≤ 60) && small (clr (.tuple xs)).shown.length) = true then some (.sh (.str (clr (.tuple xs)).shown)) else none
    | _ => none)
  | _ => none
def pStr : List PyData → Option Slot
  | [.int i] => if decide (i.natAbs.log2 < 1920) = true then some (.sh (.str (toString i))) else none
  | [.str z] => some (.sh (.str z))
  | [.bool b] => some (.sh (.str (if b then Str.ofString "True" else Str.ofString "False")))
  | _ => none
def prim : Op → List PyData → Option Slot
  | .repr, ds => pRepr ds
  | .str_, ds => pStr ds
  | .add, ds => pAdd ds
  | .sub, ds => pSub ds
  | .mul, ds => pMul ds
  | .fdiv, ds => pFdiv ds
  | .mod, ds => pMod ds
  | .pow, ds => pPow ds
  | .neg, ds => pNeg ds
  | .eq, ds => pEq ds
  | .ne, ds => pNe ds
  | .lt, ds => pLt ds
  | .le, ds => pLe ds
  | .gt, ds => pGt ds
  | .ge, ds => pGe ds
  | .len, ds => pLen ds
  | .item, ds => pItem ds
  | .max2, ds => pMax2 ds
  | .min2, ds => pMin2 ds
  | .list_, ds => pList ds
  | .tuple_, ds => pTuple ds
  | .int_, ds => pInt ds
  | .sorted, ds => pSorted ds
  | .isi t, ds => pIsi t ds
  | .is_, ds => pIs ds
  | .isnot, ds => pIsnot ds
  | .in_, ds => pIn ds
  | .notin, ds => pNotin ds
  | .sum, ds => pSum ds
  | .sl a b, ds => pSl a b ds
  | .rev, ds => pRev ds
  | .isc cs, ds => pIsc cs ds
  | .fld f, ds => pFld f ds
  | .all_, ds => pAll ds
  | .any_, ds => pAny ds
  | .get, ds => pGet ds
  | .maxd, ds => pMaxd ds
  | .lrng, ds => pLrng ds
  | .lset, ds => pLset ds
  | .sset, ds => pSset ds
  | .trng, ds => pTrng ds
  | .and0, ds => pAnd0 ds
  | .or0, ds => pOr0 ds
  | .lrng2, ds => pLrng2 ds
  | .rev2, ds => pRev2 ds
  | .maxT, ds => pMaxT ds
  | .vals, ds => pVals ds
  | .spl, ds => pSpl ds
  | .joi, ds => pJoi ds
  | .stw, ds => pStw ds
  | .lzip, ds => pLzip ds
  | .idx, ds => pIdx ds
  | .dict_ t, ds => pDict t ds
  | .shl, ds => pShl ds
  | .shr, ds => pShr ds
  | .bor, ds => pBor ds
  | .band, ds => pBand ds

/-- a temporary goes into the shared data -/
def toSh : Slot → Option PyData
  | .sh d => some d
  | .lst ds => some (.list ds)
  | .dct t kvs => some (dictD t kvs)
  | _ => none

def R.sh (x : R Slot) : R PyData := x.bind fun s r => match toSh s with
  | some d => .ok d r
  | none => .bad

/-- the stores to a target -/
def asgN (i : Nat) (s : Slot) (r : Ro) : Option Ro := if decide (i < r.length) = true then some (r.set i s) else none
mutual
def asg : CT → PyData → Ro → Option Ro
  | .name i, d, r => asgN i (.sh d) r
  | .tup ts, .tuple ds, r => asgs ts ds r
  | .tup _, _, _ => none
def asgs : CTs → List PyData → Ro → Option Ro
  | .nil, [], r => some r
  | .cons t ts, d :: ds, r => match asg t d r with
    | some r' => asgs ts ds r'
    | none => none
  | _, _, _ => none
end

/-- an operand: a place, data, a thing of one's own that has no place -/
inductive Od where
  | pl (i : Nat)
  | da (d : PyData)
  | tm (s : Slot)
/-- whether a place holds something -/
def has (r : Ro) (i : Nat) : Bool := match r[i]? with
  | some (.sh _) => true
  | some (.lst _) => true
  | some (.dct _ _) => true
  | _ => false
/-- an operand's data -/
def rdO (r : Ro) : Od → Option PyData
  | .pl i => (match r[i]? with
    | some s => toSh s
    | none => none)
  | .da d => some d
  | .tm _ => none
def rdOs (r : Ro) : List Od → Option (List PyData)
  | [] => some []
  | o :: os => (match rdO r o with
    | some d => (match rdOs r os with
      | some ds => some (d :: ds)
      | none => none)
    | none => none)
/-- whether a place holds what a method wants -/
def mTy (o : Op) (r : Ro) (i : Nat) : Bool := match o, rdO r (.pl i) with
  | .get, some (.dict ((.bool _, .none) :: _)) => true
  | .idx, some (.list _) => true
  | .spl, some (.str _) => true
  | .joi, some (.str _) => true
  | .stw, some (.str _) => true
  | _, _ => false
/-- a lock: the place and what stood there -/
abbrev Lk := Nat × Slot
def unlks : List Lk → Ro → Ro
  | [], r => r
  | (i, s) :: ls, r => (unlks ls r).set i s
/-- an operand's data, its place locked if it is a list or a dict of one's own -/
def lk1 (r : Ro) : Od → Option (PyData × List Lk × Ro)
  | .da d => some (d, [], r)
  | .pl i => (match r[i]? with
    | some (.sh d) => some (d, [], r)
    | some (.lst ds) => some (.list ds, [(i, .lst ds)], r.set i .non)
    | _ => none)
  | _ => none
def lks : List Od → Ro → Option (List PyData × List Lk × Ro)
  | [], r => some ([], [], r)
  | o :: os, r => (match lk1 r o with
    | some (d, l, r1) => (match lks os r1 with
      | some (ds, ls, r2) => some (d :: ds, l ++ ls, r2)
      | none => none)
    | none => none)
/-- an argument: what is handed in, and the place that it comes back to -/
def mv1 (r : Ro) : Od → Option (Slot × Option Nat × Ro)
  | .da d => some (.sh d, none, r)
  | .tm s => some (s, none, r)
  | .pl i => (match r[i]? with
    | some (.sh d) => some (.sh d, none, r)
    | some (.lst ds) => some (.lst ds, some i, r.set i .non)
    | some (.dct t kvs) => some (.dct t kvs, some i, r.set i .non)
    | some (.obj c fs) => some (.obj c fs, some i, r.set i .non)
    | _ => none)
def mvs : List Od → Ro → Option (Ro × List (Option Nat) × Ro)
  | [], r => some ([], [], r)
  | o :: os, r => (match mv1 r o with
    | some (s, l, r1) => (match mvs os r1 with
      | some (ss, ls, r2) => some (s :: ss, l :: ls, r2)
      | none => none)
    | none => none)

/-- the turns of a loop -/
def turns (step : PyData → Ro → R Fl) : List PyData → Ro → R Fl
  | [], r => .ok .nx r
  | d :: ds, r => match step d r with
    | .ok .nx r' => turns step ds r'
    | o => o
/-- the turns of a comprehension -/
def comp (step : PyData → Ro → R (Option PyData)) : List PyData → List PyData → Ro → R (List PyData)
  | [], acc, r => .ok acc r
  | d :: ds, acc, r => match step d r with
    | .ok (some y) r' => comp step ds (acc ++ [y]) r'
    | .ok none r' => comp step ds acc r'
    | .ex c fs r' => .bad
    | .bad => .bad
def loop (c : Ro → R Bool) (b : Ro → R Fl) : Nat → Ro → R Fl
  | 0, _ => .bad
  | n + 1, r => match c r with
    | .ok true r1 => (match b r1 with
      | .ok .nx r2 => loop c b n r2
      | o => o)
    | .ok false r1 => .ok .nx r1
    | .ex c fs r1 => .ex c fs r1
    | .bad => .bad

def R.truth (x : R Slot) : R Bool := x.bind fun s r => match s with
  | .sh (.bool b) => .ok b r
  | _ => .bad

def rngL (lo : Int) (n : Nat) : List PyData := (List.range n).map fun (k : Nat) => PyData.int (lo + (k : Int))
def in62 (i : Int) : Bool := decide (-(2 ^ 62) ≤ i) && decide (i < 2 ^ 62)

/-- downwards by one -/
def rngD (lo : Int) (n : Nat) : List PyData := (List.range n).map fun (k : Nat) => PyData.int (lo + (k : Int) * (-1))
def rng3I (d e f : PyData) (r : Ro) : R (List PyData × List Lk) := match d, e, f with
  | .int m, .int n, .int k => if (decide (k = -1) && in62 m && in62 n && small (m - n).toNat) = true then .ok (rngD m (m - n).toNat, []) r else .bad
  | _, _, _ => .bad
/-- the signs of a text -/
def chrsD (z : Str) : List PyData := z.cps.toList.map fun c => .str ⟨#[c]⟩
/-- the pairs of a dict with tuples for keys -/
def itsI (d : PyData) (r : Ro) : R (List PyData × List Lk) := match d with
  | .dict ((.bool _, .none) :: kvs) => .ok (pairL kvs, []) r
  | _ => .bad
/-- the items of a list or a tuple -/
def seqI (d : PyData) (l : List Lk) (r : Ro) : R (List PyData × List Lk) := match d with
  | .list ds => .ok (ds, l) r
  | .tuple ds => .ok (ds, l) r
  | .dict ((.bool _, .none) :: kvs) => .ok (kvs.map (·.1), l) r
  | .str z => if small z.length = true then .ok (chrsD z, l) r else .bad
  | _ => .bad
def enumL : Nat → List PyData → List PyData
  | _, [] => []
  | i, d :: ds => .tuple [.int (i : Int), d] :: enumL (i + 1) ds
/-- the pairs of a zip or an enumerate -/
def prsI (z : Bool) (xs : List PyData) : Option (List PyData) := match z, xs with
  | true, [.list a, .list b] => if small a.length = true then some (List.zipWith (fun x y => .tuple [x, y]) a b) else none
  | true, [.tuple a, .tuple b] => if small a.length = true then some (List.zipWith (fun x y => .tuple [x, y]) a b) else none
  | true, [.tuple a, .list b] => if small a.length = true then some (List.zipWith (fun x y => .tuple [x, y]) a b) else none
  | false, [.list a] => if small a.length = true then some (enumL 0 a) else none
  | _, _ => none
/-! data that holds no list of ints -/
mutual
def noIL : PyData → Bool
  | .list ds => !(ds.all isIntD) && noILs ds
  | .tuple ds => noILs ds
  | .dict _ => false
  | _ => true
def noILs : List PyData → Bool
  | [] => true
  | d :: ds => noIL d && noILs ds
end
def okF : Ro → Bool
  | [] => true
  | .sh d :: r => noIL d && okF r
  | .lst ds :: r => noILs ds && okF r
  | _ => false
/-! data that holds no list of ints with an item -/
def isNI (ds : List PyData) : Bool := !ds.isEmpty && ds.all isIntD
mutual
def noNI : PyData → Bool
  | .list ds => !isNI ds && noNIs ds
  | .tuple ds => noNIs ds
  | .dict _ => false
  | _ => true
def noNIs : List PyData → Bool
  | [] => true
  | d :: ds => noNI d && noNIs ds
end
def okN : Ro → Bool
  | [] => true
  | .sh d :: r => noNI d && okN r
  | .lst ds :: r => noNIs ds && okN r
  | _ => false
def isTl (r : Ro) (i : Nat) : Bool := match r[i]? with
  | some (.tl _ _) => true
  | _ => false
def isTn (r : Ro) (i : Nat) : Bool := match r[i]? with
  | some (.tl _ _) => true
  | some (.sh .none) => true
  | _ => false
/-- what is lent to a call -/
inductive Bo where
  | w (i : Nat)
  | s (i : Nat)
  | d (d : PyData)
def vwB (r : Ro) : List Bo → Option Ro
  | [] => some []
  | .d d :: x => (vwB r x).map (.sh d :: ·)
  | .w i :: x => (match r[i]? with
    | some (.tl d ds) => (vwB r x).map (.sh (.tuple [d, .list ds]) :: ·)
    | some (.sh .none) => (vwB r x).map (.sh .none :: ·)
    | _ => none)
  | .s i :: x => (match r[i]? with
    | some (.tl _ ds) => (vwB r x).map (.sh (.list ds) :: ·)
    | _ => none)
/-- slots forgotten, and brought back -/
def wipeR (r : Ro) : List Nat → Ro
  | [] => r
  | v :: vs => (wipeR r vs).set v .non
def backR (r0 r : Ro) : List Nat → Ro
  | [] => r
  | v :: vs => match r0[v]? with
    | some s => (backR r0 r vs).set v s
    | none => backR r0 r vs

section
variable (fu : Nat) (Phi : Nat → Ro → FR)

/-- a name's slot, its list shared from now on -/
def getV (i : Nat) (r : Ro) : R Slot := match r[i]? with
  | some (.sh d) => .ok (.sh d) r
  | some (.lst ds) => .ok (.sh (.list ds)) (r.set i (.sh (.list ds)))
  | some (.dct t kvs) => .ok (.sh (dictD t kvs)) (r.set i (.sh (dictD t kvs)))
  | some (.ll false dss) => .ok (.sh (.list (dss.map PyData.list))) (r.set i (.sh (.list (dss.map PyData.list))))
  | some (.dd kss) => .ok (.sh (ddD kss)) (r.set i (.sh (ddD kss)))
  | some (.tl d ds) => .ok (.sh (.tuple [d, .list ds])) (r.set i (.sh (.tuple [d, .list ds])))
  | _ => .bad
/-- the slots of a call's places behind it -/
def putBack : List (Option Nat) → Ro → Ro → Ro
  | none :: ls, _ :: os, r => putBack ls os r
  | some i :: ls, o :: os, r => putBack ls os (r.set i o)
  | _, _, r => r

/-- an object of a class, without a field of a method's name -/
def isObj (c : Nat) (m : Str) : Option Slot → Bool
  | some (.obj c' fs) => decide (c' = c) && (fs.lookup m).isNone
  | _ => false
mutual
def ev : CE → Ro → R Slot
  | .var i, r => getV i r
  | .cst d, r => .ok (.sh d) r
  | .glob _ d, r => .ok (.sh d) r
  | .op o es, r => (rds es r).bind fun x r1 => match rdOs r1 x with
    | some ds => (match prim o ds with
      | some s => .ok s r1
      | none => .bad)
    | none => .bad
  | .tup es, r => (evs es r).bind fun ds r1 => .ok (.sh (.tuple ds)) r1
  | .lst es, r => (evs es r).bind fun ds r1 => .ok (.lst ds) r1
  | .not a, r => ((ev a r).truth).bind fun b r1 => .ok (.sh (.bool (!b))) r1
  | .and a b, r => ((ev a r).truth).bind fun x r1 => if x = true then ev b r1 else .ok (.sh (.bool false)) r1
  | .or a b, r => ((ev a r).truth).bind fun x r1 => if x = true then .ok (.sh (.bool true)) r1 else ev b r1
  | .chain o p a b c, r => (ev a r).sh.bind fun x r1 => (ev b r1).sh.bind fun y r2 => match prim o [x, y] with
    | some (.sh (.bool true)) => (ev c r2).sh.bind fun z r3 => (match prim p [y, z] with
      | some s => .ok s r3
      | none => .bad)
    | some (.sh (.bool false)) => .ok (.sh (.bool false)) r2
    | _ => .bad
  | .chain3 o p q a b c d, r => (ev a r).sh.bind fun x r1 => (ev b r1).sh.bind fun y r2 => match prim o [x, y] with
    | some (.sh (.bool true)) => (ev c r2).sh.bind fun z r3 => (match prim p [y, z] with
      | some (.sh (.bool true)) => (ev d r3).sh.bind fun w r4 => (match prim q [z, w] with
        | some s => .ok s r4
        | none => .bad)
      | some (.sh (.bool false)) => .ok (.sh (.bool false)) r3
      | _ => .bad)
    | some (.sh (.bool false)) => .ok (.sh (.bool false)) r2
    | _ => .bad
  | .lc elt tg it cond own, r => (evI it r).bind fun x r1 =>
      (comp (fun d q => match asg tg d (wipeR q (own.map (·.2))) with
        | some q1 => (evC cond q1).bind fun b q2 => if b = true then (ev elt q2).sh.bind fun y q3 => .ok (some y) (backR q q3 (own.map (·.2))) else .ok none (backR q q2 (own.map (·.2)))
        | none => .bad) x.1 [] r1).bind fun ys r2 => .ok (.lst ys) (unlks x.2 r2)
  | .call f es, r => (evA es r).bind fun x r1 => match mvs x r1 with
    | some (args, ls, r2) => (match Phi f args with
      | .ret s outs => .ok s (putBack ls outs r2)
      | .ex c fs outs => .ex c fs (putBack ls outs r2)
      | .bad => .bad)
    | none => .bad
  | .callF f es, r => (evA es r).bind fun x r1 => match mvs x r1 with
    | some (args, ls, r2) => (match Phi f args with
      | .ret (.sh (.list ds)) outs => if (okF args && okF outs && (intsD ds).isSome) = true then .ok (.lst ds) (putBack ls outs r2) else .bad
      | _ => .bad)
    | none => .bad
  | .ll0 n, r => .ok (.ll false (List.replicate n [])) r
  | .ddn, r => .ok (.dd []) r
  | .fnc k, r => .ok (.sh (fnD k)) r
  | .callV i es, r => (match r[i]? with
    | some (.sh (.dict [(.int kk, .none)])) => (evA es r).bind fun x r1 => (match mvs x r1 with
      | some (args, ls, r2) => (match Phi kk.toNat args with
        | .ret s outs => .ok s (putBack ls outs r2)
        | .ex c fs outs => .ex c fs (putBack ls outs r2)
        | .bad => .bad)
      | none => .bad)
    | _ => .bad)
  | .nn b i, r => (match r[i]? with
    | some (.sh d) => .ok (.sh (.bool (isNon d == b))) r
    | some (.tl _ _) => .ok (.sh (.bool (!b))) r
    | _ => .bad)
  | .callT f es, r => (evA es r).bind fun x r1 => match mvs x r1 with
    | some (args, ls, r2) => (match Phi f args with
      | .ret (.sh (.tuple [d, .list ds])) outs => if (okN args && okN outs && isNI ds && noNI d) = true then .ok (.tl d ds) (putBack ls outs r2) else .bad
      | .ret (.sh .none) outs => .ok (.sh .none) (putBack ls outs r2)
      | _ => .bad)
    | none => .bad
  | .callB f es, r => (evB es r).bind fun x r1 => match vwB r1 x with
    | some args => (match Phi f args with
      | .ret (.sh d) _ => if flatD d = true then .ok (.sh d) r1 else .bad
      | _ => .bad)
    | none => .bad
  | .snd _, _ => .bad
  | .tlFst i, r => (match r[i]? with
    | some (.tl d _) => .ok (.sh d) r
    | _ => .bad)
  | .tlPop0 i, r => (match r[i]? with
    | some (.tl d (y :: ds)) => .ok (.sh y) (r.set i (.tl d ds))
    | _ => .bad)
  | .get0 i k, r => if mTy .get r i = true then (ev k r).sh.bind fun z r1 => (match rdO r1 (.pl i) with
    | some (.dict ((.bool t, .none) :: kvs)) => if isKey t z = true then (match lookD z kvs with
      | some d => .ok (.sh d) r1
      | none => .ok (.lst []) r1) else .bad
    | _ => .bad) else .bad
  | .ref _, _ => .bad
  | .own _, _ => .bad
  | .pop i a, r => match r[i]? with
    | some (.lst _) => (ev a r).sh.bind fun d r1 => (match d, r1[i]? with
      | .int n, some (.lst ds) => (match ixN ds.length n with
        | some j => (match ds[j]? with
          | some y => .ok (.sh y) (r1.set i (.lst (ds.eraseIdx j)))
          | none => .bad)
        | none => .bad)
      | _, _ => .bad)
    | _ => .bad
  | .shr i, r => getV i r
  | .pop0 i, r => match r[i]? with
    | some (.lst ds) => (match ds.getLast? with
      | some y => .ok (.sh y) (r.set i (.lst ds.dropLast))
      | none => .bad)
    | _ => .bad
  | .xop o es, r => (rds es r).bind fun x r1 => match rdOs r1 x with
    | some ds => (match prim o ds with
      | some s => .ok s r1
      | none => .bad)
    | none => .bad
  | .meth o i es, r => if mTy o r i = true then (rds es r).bind fun x r1 => match rdOs r1 (.pl i :: x) with
    | some ds => (match prim o ds with
      | some s => .ok s r1
      | none => .bad)
    | none => .bad else .bad
  | .dnew t, r => .ok (.dct t []) r
  | .xnew c f a, r => (ev a r).sh.bind fun d r1 => .ok (.sh (excD c (if f = "" then [] else [(.str (Str.ofString f), d)]))) r1
  | .dsp t k v, r => (ev k r).sh.bind fun x r1 => (ev v r1).sh.bind fun y r2 => if isKey t x = true then .ok (.dct t [(x, y)]) r2 else .bad
  | .mk c f es, r => (evA es r).bind fun x r1 => match mvs x r1 with
    | some (args, ls, r2) => (match Phi f (.obj c [] :: args) with
      | .ret (.sh .none) (.obj c' fs :: outs) => if decide (c' = c) = true then .ok (.obj c' fs) (putBack ls outs r2) else .bad
      | .ex cc fs (_ :: outs) => .ex cc fs (putBack ls outs r2)
      | _ => .bad)
    | none => .bad
  | .mcall c m f (.ref i) es, r => if isObj c m r[i]? = true then (evA es r).bind fun x r1 => match mvs (.pl i :: x) r1 with
    | some (args, ls, r2) => (match Phi f args with
      | .ret s outs => .ok s (putBack ls outs r2)
      | .ex cc fs outs => .ex cc fs (putBack ls outs r2)
      | .bad => .bad)
    | none => .bad else .bad
  | .mcall c m f (.own e) es, r => (ev e r).bind fun s0 r0 => if isObj c m (some s0) = true then (evA es r0).bind fun x r1 => match mvs (.tm s0 :: x) r1 with
    | some (args, ls, r2) => (match Phi f args with
      | .ret s outs => .ok s (putBack ls outs r2)
      | .ex cc fs outs => .ex cc fs (putBack ls outs r2)
      | .bad => .bad)
    | none => .bad else .bad
  | .mcall _ _ _ _ _, _ => .bad
  | .fld c i f, r => match r[i]? with
    | some (.obj c' fs) => if decide (c' = c) = true then (match fs.lookup f with
      | some (.sh d) => .ok (.sh d) r
      | _ => .bad) else .bad
    | some (.rob c' fs) => if decide (c' = c) = true then (match fs.lookup f with
      | some (.sh d) => .ok (.sh d) r
      | _ => .bad) else .bad
    | _ => .bad
  | .opf o c i f, r => match r[i]? with
    | some (.obj c' fs) => if decide (c' = c) = true then (match fs.lookup f with
      | some x => (match prim o [x.data] with
        | some s => .ok s r
        | none => .bad)
      | none => .bad) else .bad
    | _ => .bad
  | .sl2 a lo hi, r => (ev a r).sh.bind fun d r1 => (ev lo r1).sh.bind fun x r2 => match x with
    | .int i => (ev hi r2).sh.bind fun y r3 => (match y with
      | .int j => (match cutP d (some i) (some j) with
        | some s => .ok s r3
        | none => .bad)
      | _ => .bad)
    | _ => .bad
/-- shared data, from the left -/
def evs : CEs → Ro → R (List PyData)
  | .nil, r => .ok [] r
  | .cons e es, r => (ev e r).sh.bind fun d r1 => (evs es r1).bind fun ds r2 => .ok (d :: ds) r2
/-- operands, from the left; names are read at last -/
def rds : CEs → Ro → R (List Od)
  | .nil, r => .ok [] r
  | .cons (.var i) es, r => if has r i = true then (rds es r).bind fun ds r2 => .ok (.pl i :: ds) r2 else .bad
  | .cons e es, r => (ev e r).sh.bind fun d r1 => (rds es r1).bind fun ds r2 => .ok (.da d :: ds) r2
/-- a call's arguments -/
def evA : CEs → Ro → R (List Od)
  | .nil, r => .ok [] r
  | .cons (.ref i) es, r => if has r i = true then (evA es r).bind fun ds r2 => .ok (.pl i :: ds) r2 else .bad
  | .cons (.own e) es, r => (ev e r).bind fun s r1 => (evA es r1).bind fun ds r2 => .ok (.tm s :: ds) r2
  | .cons e es, r => (ev e r).sh.bind fun d r1 => (evA es r1).bind fun ds r2 => .ok (.da d :: ds) r2
/-- a call's arguments, some of them lent -/
def evB : CEs → Ro → R (List Bo)
  | .nil, r => .ok [] r
  | .cons (.ref i) es, r => if isTn r i = true then (evB es r).bind fun x r1 => .ok (.w i :: x) r1 else .bad
  | .cons (.snd i) es, r => if isTl r i = true then (evB es r).bind fun x r1 => .ok (.s i :: x) r1 else .bad
  | .cons e es, r => (ev e r).sh.bind fun d r1 => (evB es r1).bind fun x r2 => .ok (.d d :: x) r2
/-- a clause's tests -/
def evC : CEs → Ro → R Bool
  | .nil, r => .ok true r
  | .cons e .nil, r => (ev e r).truth
  | .cons _ (.cons _ _), _ => .bad
/-- what a loop walks -/
def evI : CI → Ro → R (List PyData × List Lk)
  | .seq (.var i), r => (match lk1 r (.pl i) with
    | some (d, ls, r1) => seqI d ls r1
    | none => .bad)
  | .seq e, r => (ev e r).sh.bind fun d r1 => seqI d [] r1
  | .rng1 a, r => (ev a r).sh.bind fun d r1 => match d with
    | .int n => if (in62 n && small n.toNat) = true then .ok (rngL 0 n.toNat, []) r1 else .bad
    | _ => .bad
  | .rng2 a b, r => (ev a r).sh.bind fun d r1 => (ev b r1).sh.bind fun e r2 => match d, e with
    | .int m, .int n => if (in62 m && in62 n && small (n - m).toNat) = true then .ok (rngL m (n - m).toNat, []) r2 else .bad
    | _, _ => .bad
  | .rng3 a b c, r => (ev a r).sh.bind fun d r1 => (ev b r1).sh.bind fun e r2 => (ev c r2).sh.bind fun f r3 => rng3I d e f r3
  | .prs z es, r => (rds es r).bind fun x r1 => match lks x r1 with
    | some (ds, ls, r2) => (match prsI z ds with
      | some l => .ok (l, ls) r2
      | none => .bad)
    | none => .bad
  | .its a, r => (ev a r).sh.bind fun d r1 => itsI d r1
end

mutual
def ex : CS → Ro → R Fl
  | .set (.name i) e, r => (ev Phi e r).bind fun s r1 => match asgN i s r1 with
    | some r2 => .ok .nx r2
    | none => .bad
  | .set (.tup ts) e, r => (ev Phi e r).sh.bind fun d r1 => match asg (.tup ts) d r1 with
    | some r2 => .ok .nx r2
    | none => .bad
  | .setLc i e, r => (ev Phi e r).bind fun s r1 => match asgN i s r1 with
    | some r2 => .ok .nx r2
    | none => .bad
  | .move i j, r => match r[j]? with
    | some (.lst ds) => (match asgN i (.lst ds) (r.set j .non) with
      | some r2 => .ok .nx r2
      | none => .bad)
    | some (.dct t kvs) => (match asgN i (.dct t kvs) (r.set j .non) with
      | some r2 => .ok .nx r2
      | none => .bad)
    | some (.sh d) => (match asgN i (.sh d) r with
      | some r2 => .ok .nx r2
      | none => .bad)
    | _ => .bad
  | .aug i o e, r => match r[i]? with
    | some (.sh (.int x)) => (ev Phi e r).sh.bind fun y r1 => (match prim o [.int x, y] with
      | some s => (match asgN i s r1 with
        | some r2 => .ok .nx r2
        | none => .bad)
      | none => .bad)
    | _ => .bad
  | .ite c a b, r => (ev Phi c r).truth.bind fun x r1 => if x = true then exs a r1 else exs b r1
  | .for_ t it b, r => (evI Phi it r).bind fun x r1 =>
      (turns (fun d q => match asg t d q with
        | some q1 => exs b q1
        | none => .bad) x.1 r1).bind fun f r2 => .ok f (unlks x.2 r2)
  | .while_ c b, r => loop (fun q => (ev Phi c q).truth) (fun q => exs b q) fu r
  | .ret (.var i), r => match r[i]? with
    | some (.sh d) => .ok (.ret (.sh d)) r
    | some (.lst ds) => .ok (.ret (.lst ds)) (r.set i .non)
    | some (.dct t kvs) => .ok (.ret (.dct t kvs)) (r.set i .non)
    | some (.obj c fs) => .ok (.ret (.obj c fs)) (r.set i .non)
    | _ => .bad
  | .ret e, r => (ev Phi e r).bind fun s r1 => .ok (.ret s) r1
  | .expr e, r => (ev Phi e r).bind fun _ r1 => .ok .nx r1
  | .append i e, r => match r[i]? with
    | some (.lst _) => (ev Phi e r).sh.bind fun y r1 => (match r1[i]? with
      | some (.lst ds) => if decide (ds.length < 16777216) = true then .ok .nx (r1.set i (.lst (ds ++ [y]))) else .bad
      | _ => .bad)
    | _ => .bad
  | .extend i e, r => match r[i]? with
    | some (.lst _) => (ev Phi e r).sh.bind fun y r1 => (match r1[i]?, y with
      | some (.lst ds), .list ys => if small (ds.length + ys.length) = true then .ok .nx (r1.set i (.lst (ds ++ ys))) else .bad
      | _, _ => .bad)
    | _ => .bad
  | .setItem i k e, r => (ev Phi e r).sh.bind fun y r1 => (match r1[i]? with
    | some (.lst _) => (ev Phi k r1).sh.bind fun z r2 => (match z, r2[i]? with
      | .int n, some (.lst ds) => (match ixN ds.length n with
        | some j => .ok .nx (r2.set i (.lst (ds.set j y)))
        | none => .bad)
      | _, _ => .bad)
    | some (.dct _ _) => (ev Phi k r1).sh.bind fun z r2 => (match r2[i]? with
      | some (.dct t kvs) => if (isKey t z && decide (kvs.length < 16777216)) = true then .ok .nx (r2.set i (.dct t (putD z y kvs))) else .bad
      | _ => .bad)
    | _ => .bad)
  | .pass, r => .ok .nx r
  | .raise_ c f .nil, r => .ex c [] r
  | .raise_ c f (.cons e .nil), r => (ev Phi e r).sh.bind fun d r1 => .ex c [(.str (Str.ofString f), d)] r1
  | .raise_ _ _ (.cons _ (.cons _ _)), _ => .bad
  | .try_ b cs i x, r => (match exs b r with
    | .ex c fs r1 => if decide (c ∈ cs) = true then (if decide (i < r1.length) = true then (match asgN x (.sh (excD c fs)) (r1.set i .non) with
      | some r2 => .ok .nx r2
      | none => .bad) else .bad) else .ex c fs r1
    | o => o)
  | .tryS b cs i ss, r => (match exs b r with
    | .ex c fs r1 => if decide (c ∈ cs) = true then (if decide (i < r1.length) = true then (match exs ss (r1.set i (.sh (excD c fs))) with
      | .ok f r2 => .ok f (r2.set i .non)
      | .ex _ _ _ => .bad
      | .bad => .bad) else .bad) else .ex c fs r1
    | o => o)
  | .forD t i b, r => (match r[i]? with
    | some (.dct true kvs) => (match turns (fun d q => match asg t d q with
        | some q1 => exs b q1
        | none => .bad) (pairL kvs) (r.set i .non) with
      | .ok f r2 => .ok f (r2.set i (.dct true kvs))
      | .ex _ _ _ => .bad
      | .bad => .bad)
    | _ => .bad)
  | .par i j a b, r => (evs Phi (.cons a (.cons b .nil)) r).bind fun ds r1 => (match ds with
    | [x, y] => if (decide (i < r1.length) && decide (j < r1.length) && decide (i ≠ j)) = true then .ok .nx ((r1.set i (.sh x)).set j (.sh y)) else .bad
    | _ => .bad)
  | .retP i j, r => match r[i]?, r[j]? with
    | some (.lst a), some (.lst b) => if decide (i ≠ j) = true then .ok (.ret (.ll true [a, b])) ((r.set i .non).set j .non) else .bad
    | _, _ => .bad
  | .setP y z e, r => (ev Phi e r).bind fun s r1 => (match s with
    | .ll true [a, b] => if (decide (y < r1.length) && decide (z < r1.length) && decide (y ≠ z)) = true then .ok .nx ((r1.set y (.lst a)).set z (.lst b)) else .bad
    | _ => .bad)
  | .fput c i f e, r => (ev Phi e r).bind fun s r1 => (match s.fd, r1[i]? with
    | some x, some (.obj c' fs) => if (decide (c' = c) && decide (fs.length < 100)) = true then .ok .nx (r1.set i (.obj c' (putFd f x fs))) else .bad
    | _, _ => .bad)
  | .appL i k e, r => (match r[i]? with
    | some (.ll false dss) => (ev Phi k (r.set i .non)).sh.bind fun z r1 => (match z with
      | .int n => (match ixN dss.length n with
        | some j => (ev Phi e r1).sh.bind fun y r2 => if decide ((dss.getD j []).length < 16777216) = true then .ok .nx (r2.set i (.ll false (dss.set j (dss.getD j [] ++ [y])))) else .bad
        | none => .bad)
      | _ => .bad)
    | _ => .bad)
  | .fapp c i f e, r => (match r[i]? with
    | some (.obj c' fs) => if decide (c' = c) = true then (match fs.lookup f with
      | some (.lst ds) => (ev Phi e (r.set i .non)).sh.bind fun y r1 => if (decide (ds.length < 16777216)) = true then .ok .nx (r1.set i (.obj c' (putFd f (.lst (ds ++ [y])) fs))) else .bad
      | _ => .bad) else .bad
    | _ => .bad)
  | .forF c t i f b, r => (match r[i]? with
    | some (.obj c' fs) => if decide (c' = c) = true then (match fs.lookup f with
      | some (.lst ds) => (match turns (fun d q => match asg t d q with
          | some q1 => exs b q1
          | none => .bad) ds (r.set i (.rob c' fs)) with
        | .ok f r2 => if ((r2.set i .non).all (fun s => !isRob s) && !flRob f) = true then .ok f (r2.set i (.obj c' fs)) else .bad
        | .ex _ _ _ => .bad
        | .bad => .bad)
      | _ => .bad) else .bad
    | _ => .bad)
  | .rem i e, r => match r[i]? with
    | some (.lst _) => (ev Phi e r).sh.bind fun y r1 => (match r1[i]? with
      | some (.lst ds) => if (shp (.list ds) && shp y) = true then (match idxD ds y with
        | some j => .ok .nx (r1.set i (.lst (ds.eraseIdx j)))
        | none => .bad) else .bad
      | _ => .bad)
    | _ => .bad
  | .rev_ i, r => match r[i]? with
    | some (.lst ds) => .ok .nx (r.set i (.lst ds.reverse))
    | _ => .bad
  | .tlApp i e, r => (match r[i]? with
    | some (.tl _ _) => (ev Phi e r).sh.bind fun y r1 => (match r1[i]? with
      | some (.tl d ds) => if decide (ds.length < 16777216) = true then .ok .nx (r1.set i (.tl d (ds ++ [y]))) else .bad
      | _ => .bad)
    | _ => .bad)
  | .tlRev i, r => (match r[i]? with
    | some (.tl d ds) => .ok .nx (r.set i (.tl d ds.reverse))
    | _ => .bad)
  | .tlClr i, r => (match r[i]? with
    | some (.tl d _) => .ok .nx (r.set i (.tl d []))
    | _ => .bad)
  | .setdef i k e, r => match r[i]? with
    | some (.dct _ _) => (ev Phi k r).sh.bind fun z r1 => (ev Phi e r1).sh.bind fun y r2 => (match r2[i]? with
      | some (.dct t kvs) => if (isKey t z && decide (kvs.length < 16777216)) = true then (if (lookD z kvs).isSome = true then .ok .nx r2 else .ok .nx (r2.set i (.dct t (kvs ++ [(z, y)])))) else .bad
      | _ => .bad)
    | _ => .bad
def exs : CSs → Ro → R Fl
  | .nil, r => .ok .nx r
  | .sub i j k ss, r => (match r[i]? with
    | some (.dd _) => (ev Phi k r).sh.bind fun z r1 => (match r1[i]? with
      | some (.dd kss) => if (isKey false z && decide (kss.length < 16777216) && decide (j < r1.length) && decide (i ≠ j)) = true then (match exs ss ((r1.set i .non).set j (.dct true ((lookDD z kss).getD []))) with
        | .ok .nx r2 => (match r2[j]? with
          | some (.dct true kvs) => .ok .nx ((r2.set j .non).set i (.dd (putDD z kvs kss)))
          | _ => .bad)
        | _ => .bad) else .bad
      | _ => .bad)
    | _ => .bad)
  | .cons s ss, r => match ex s r with
    | .ok .nx r1 => exs ss r1
    | o => o
end
end

/-- a def: its parameters' number, its slots' number, the parameters that it may change, its body -/
structure Fn where
  np : Nat
  nn : Nat
  muts : List Nat
  body : CSs

def outsOf (muts : List Nat) (args r : Ro) : Ro := (List.range args.length).map fun i => if decide (i ∈ muts) = true then r.getD i .non else args.getD i .non
def okArgs (muts : List Nat) : Nat → Ro → Bool
  | _, [] => true
  | i, .sh _ :: r => okArgs muts (i + 1) r
  | i, .lst _ :: r => decide (i ∈ muts) && okArgs muts (i + 1) r
  | i, .dct _ _ :: r => decide (i ∈ muts) && okArgs muts (i + 1) r
  | i, .obj _ _ :: r => decide (i ∈ muts) && okArgs muts (i + 1) r
  | _, .non :: _ => false
  | _, .rob _ _ :: _ => false
  | _, .ll _ _ :: _ => false
  | _, .dd _ :: _ => false
  | _, .tl _ _ :: _ => false

def runF (fu : Nat) (Phi : Nat → Ro → FR) (f : Fn) (args : Ro) : FR :=
  if (decide (args.length = f.np) && okArgs f.muts 0 args) = true then
    match exs fu Phi f.body (args ++ List.replicate (f.nn - f.np) .non) with
    | .ok (.ret s) r => .ret s (outsOf f.muts args r)
    | .ok .nx r => .ret (.sh .none) (outsOf f.muts args r)
    | .ex c fs r => .ex c fs (outsOf f.muts args r)
    | .bad => .bad
  else .bad

/-- the script, as data -/
def scrD (ns : List Int) : PyData := .dict [(.none, .list (ns.map PyData.int))]
/-- the whole program, by levels -/
def run (fu : Nat) (T : List Fn) : Nat → Nat → Ro → FR
  | 0, _, _ => .bad
  | k + 1, f, args => match T[f]? with
    | some g => runF fu (run fu T k) g args
    | none => .bad
end Ev
end

section
set_option Elab.async false
set_option linter.all false
set_option maxRecDepth 100000
set_option maxHeartbeats 2000000
namespace Ev
open PySem PySem.Spec PyProof.Rows HT
section
variable {prog : Program} {w : World} {A : Around} {E : Value → Shared → Prop} {s : Shared}
theorem adjust_rev (n : Nat) : Builtin.Slice.sliceAdjust none none (-1) (n : Int) = ((n : Int) - 1, -1) := by
  unfold Builtin.Slice.sliceAdjust
  simp
theorem places_rev (n : Nat) : Builtin.Slice.slicePlaces ((n : Int) - 1) (-1) (-1) = n := by
  unfold Builtin.Slice.slicePlaces
  have h1 : ¬ ((-1 : Int) > 0) := by omega
  rw [if_neg h1]
  split
  · rw [show -(-1 : Int) = 1 by rfl, Int.ediv_one]; omega
  · omega
theorem fm_map {α β : Type} {f : α → Option β} {g : α → β} : ∀ {l : List α}, (∀ m ∈ l, f m = some (g m)) → l.filterMap f = l.map g
  | [], _ => rfl
  | a :: l, h => by
    rw [List.filterMap_cons, h a (List.mem_cons_self ..), List.map_cons, fm_map fun m q => h m (List.mem_cons_of_mem _ q)]
theorem pick_rev (xs : Array Value) : ((List.range xs.size).filterMap fun (m : Nat) => xs[((xs.size : Int) - 1 + (m : Int) * (-1)).toNat]?).toArray = xs.toList.reverse.toArray := by
  congr 1
  have e : ∀ m ∈ List.range xs.size, xs[((xs.size : Int) - 1 + (m : Int) * (-1)).toNat]? = some (xs.toList.reverse.getD m .none) := by
    intro m hm
    have hm := List.mem_range.mp hm
    have : ((xs.size : Int) - 1 + (m : Int) * (-1)).toNat = xs.size - 1 - m := by omega
    rw [this, List.getD_eq_getElem?_getD, List.getElem?_reverse (by simpa using hm)]
    have h2 : xs.size - 1 - m < xs.size := by omega
    simp [h2]
  have h2 : (List.range xs.size).filterMap (fun (m : Nat) => xs[((xs.size : Int) - 1 + (m : Int) * (-1)).toNat]?) = (List.range xs.size).map fun m => xs.toList.reverse.getD m .none := by
    exact fm_map e
  rw [h2]
  apply List.ext_getElem?
  intro i
  rw [List.getElem?_map]
  by_cases h : i < xs.size
  · rw [List.getElem?_range h]
    have : i < xs.toList.reverse.length := by simpa using h
    rw [Option.map_some, List.getD_eq_getElem?_getD, List.getElem?_eq_getElem this]
    rfl
  · have h3 : (List.range xs.size)[i]? = none := by simp; omega
    have h4 : xs.toList.reverse[i]? = none := by simp; omega
    rw [h3, h4]; rfl
theorem applied_rev {sl : Addr} {vl vu vs : Value} {n : Nat} {Q : Int × Int × Nat → Shared → Prop} (hs : s.heap.IsSliceOf sl vl vu vs) (pl : IsPart vl none) (pu : IsPart vu none) (ps : IsPart vs (some (-1)))
    (h : Q ((n : Int) - 1, -1, n) s) : wpAny (model prog w) A (Builtin.Slice.sliceApplied (.ref sl) (pure (n : Int))) Q E s := by
  obtain ⟨os, ho, hc, hd⟩ := id hs
  unfold Builtin.Slice.sliceApplied Builtin.Slice.sliceFields
  refine wpAny_bind (wpAny_bind (wpAny_field ho hd (x := vl) rfl (wpAny_bind (wpAny_field ho hd (x := vu) rfl (wpAny_bind (wpAny_field ho hd (x := vs) rfl (wpAny_pure ?_)))))))
  refine wpAny_bind (slicePart_ ps ?_)
  show wpAny _ _ (if ((-1 : Int) == 0) = true then _ else _) _ _ s
  rw [if_neg (by decide)]
  refine wpAny_bind (slicePart_ pl (wpAny_bind (slicePart_ pu (wpAny_bind (wpAny_pure ?_)))))
  show wpAny _ _ (match Builtin.Slice.sliceAdjust none none (-1) (n : Int) with | (lo, hi) => pure (lo, (-1 : Int), Builtin.Slice.slicePlaces lo hi (-1))) _ _ s
  rw [adjust_rev n]
  show wpAny _ _ (pure ((n : Int) - 1, (-1 : Int), Builtin.Slice.slicePlaces ((n : Int) - 1) (-1) (-1))) _ _ s
  rw [places_rev]
  exact wpAny_pure h
theorem getItem_rev {t sl : Addr} {items : Array Value} {vl vu vs : Value} {Q : Value → Shared → Prop} (ht : IsTup s.heap t items) (hs : s.heap.IsSliceOf sl vl vu vs) (pl : IsPart vl none) (pu : IsPart vu none) (ps : IsPart vs (some (-1)))
    (h : Q (.ref s.heap.objs.size) { s with heap := s.heap.push { cls := .type "tuple", data := .seq items.toList.reverse.toArray } })
    (hsz : items.size ≤ sizeLine) : wpAny (model prog w) A (getItem (.ref t) (.ref sl)) Q E s := by
  have hz : sizeOk (.seq items.toList.reverse.toArray) := by
    show items.toList.reverse.toArray.size ≤ sizeLine
    simpa using hsz
  obtain ⟨os, ho, hc, hd⟩ := id hs
  have hT : s.TypeIs (.ref sl) "slice" := ⟨os, ho, hc⟩
  unfold getItem
  try with_reducible refine wpAny_holding ?_
  first | refine wpAny_bind (wpAny_pure ?_) | skip
  refine wpAny_bind (wpAny_sequenceKey ht.typeIs (by decide) ?_)
  refine wpAny_bind (wpAny_callSpecial?_slot (name := Str.ofString "__getitem__") ht.typeIs PyProof.Rows.slot_tuple_getitem (wpAny_call_entry PyProof.Rows.slot_tuple_getitem ht.typeIs entry_tuple_getitem ?_ (args_tuple_getitem _ _)))
  show wpAny _ _ (Builtin.Tuple.tupleItemsOf (.ref t) >>= _) _ _ s
  refine wpAny_bind (tupleItemsOf_ ht (wpAny_bind (wpAny_typeOf hT ?_)))
  rw [if_pos (by decide)]
  refine wpAny_bind (applied_rev hs pl pu ps ?_)
  have hno : ¬ ((((items.size : Int) - 1) == 0 && (-1 : Int) == 1 && items.size == items.size) = true) := by
    intro q
    rw [Bool.and_eq_true, Bool.and_eq_true] at q
    exact absurd (eq_of_beq q.1.2 : (-1 : Int) = 1) (by decide)
  show wpAny _ _ (if (((items.size : Int) - 1) == 0 && (-1 : Int) == 1 && items.size == items.size) = true then _ else _) _ _ s
  rw [if_neg hno, pick_rev]
  first
    | exact wpAny_bind (m := Builtin.Tuple.tupleExact _) (wpAny_newObj_type (wpAny_pure ⟨_, rfl, wpAny_pure h⟩) hz)
    | exact wpAny_bind (m := Builtin.Tuple.tupleExact _) (wpAny_newObj_type (wpAny_bind (wpAny_pure (wpAny_pure ⟨_, rfl, wpAny_pure h⟩))) hz)
    | exact wpAny_bind (wpAny_bind (m := Builtin.Tuple.tupleExact _) (wpAny_newObj_type (wpAny_pure (wpAny_pure ⟨_, rfl, wpAny_pure h⟩)) hz))
    | exact wpAny_bind (wpAny_bind (m := Builtin.Tuple.tupleExact _) (wpAny_newObj_type (wpAny_pure ⟨_, rfl, wpAny_pure h⟩) hz))
end
open L2
section
variable {X : Cx}
def tRevA (K : PySem.W.Frag) (te : TE) : TE := fun sg H Q => te sg H fun x H1 => ∃ a xs, x = .ref a ∧ ((SqL K H1 a xs ∧ ∀ p, H1 p = none → Q (.ref p) (upd H1 p (.lst xs.reverse))) ∨ (SqT K H1 a xs ∧ ∀ p, H1 p = none → Q (.ref p) (upd H1 p (.tup xs.reverse))))
theorem pe_revA {e : Expr} {te : TE} {k : Nat} {p1 p2 p3 pos : Pos} (he : PE X e te) : PE X (.Subscript e (.Slice none none (some (.UnaryOp .USub (.Constant (.int 1) k p1) p2)) p3) pos) (tRevA X.K te) := by
  refine ⟨fun pins s sg H Q I h => Subscript_ (thn (he.run pins s sg H _ I h) ?_)⟩
  rintro v s1 ⟨x, H1, I1, r1, a, xs, rfl, q⟩
  cases r1
  have hst : PO X (some (.UnaryOp .USub (.Constant (.int 1) k p1) p2)) (tPart (tUn (rU fun i => .int (-i)) (tC (.int 1)))) := po_some (pe_un un_neg pe_int)
  refine wpAny_Slice (thn (po_none.run pins s1 sg H1 (fun o H2 => o = none ∧ H2 = H1) I1 ⟨rfl, rfl⟩) ?_)
  rintro vl s2 ⟨_, _, I2, pl, rfl, rfl⟩
  refine thn (po_none.run pins s2 sg _ (fun o H3 => o = none ∧ H3 = _) I2 ⟨rfl, rfl⟩) ?_
  rintro vu s3 ⟨_, _, I3, pu, rfl, rfl⟩
  refine thn (hst.run pins s3 sg _ (fun o H4 => o = some (-1) ∧ H4 = _) I3 ⟨1, rfl, -1, rfl, rfl, rfl⟩) ?_
  rintro vs s4 ⟨_, H4, I4, ps, rfl, rfl⟩
  have I5 : Inv X pins sg H4 { s4 with heap := s4.heap.push { cls := .type "slice", data := .fields #[vl, vu, vs] } } := I4.kept (t' := s4.toks) fun b ob q => Heap.get?_push_of_some _ q
  show wpAny (model X.prog X.w) X.A (subscriptTail e (.Slice none none (some (.UnaryOp .USub (.Constant (.int 1) k p1) p2)) p3) (.ref a) (.ref s4.heap.objs.size)) (EP X pins sg Q) X.xe { s4 with heap := s4.heap.push { cls := .type "slice", data := .fields #[vl, vu, vs] } }
  rcases q with ⟨hx, q⟩ | ⟨hx, q⟩
  · obtain ⟨its, r, ht, hz⟩ := I5.list hx
    have hlen := r.length
    refine tail_any (ops := [.ref a, .ref s4.heap.objs.size]) ht.isList.typeIs (PySem.slot_list_getitem.lookup) ?_ (by with_unfolding_all rfl)
    refine wpAny_getItem_list_slice ht.isList (Heap.IsSliceOf.new _ vl vu vs) pl pu ps (by decide) ?_ (by rw [List.size_toArray]; omega)
    rw [PySem.W.krv_pick]
    refine ⟨.ref _, _, I5.laid (t' := s4.toks) (o := .lst xs.reverse) (fun b ob q => Heap.get?_push_of_some _ q) (Nat.le_refl _) ?_, rfl, q _ (I5.hok.fresh (Nat.le_refl _))⟩
    exact ⟨by rw [List.length_reverse]; exact hz, _, 0, r.reverse, Heap.get?_push_size _ rfl⟩
  · obtain ⟨its, r, ht, hz⟩ := I5.tuple hx
    have hlen := r.length
    refine tail_any (ops := [.ref a, .ref s4.heap.objs.size]) ht.typeIs (PyProof.Rows.slot_tuple_getitem.lookup) ?_ (by with_unfolding_all rfl)
    refine getItem_rev ht (Heap.IsSliceOf.new _ vl vu vs) pl pu ps ?_ (by rw [List.size_toArray]; omega)
    refine ⟨.ref _, _, I5.laid (t' := s4.toks) (o := .tup xs.reverse) (fun b ob q => Heap.get?_push_of_some _ q) (Nat.le_refl _) ?_, rfl, q _ (I5.hok.fresh (Nat.le_refl _))⟩
    exact ⟨by rw [List.length_reverse]; exact hz, its.reverse, r.reverse, IsTup.new _ _⟩
end
end Ev
end

section
set_option Elab.async false
set_option linter.all false
set_option maxRecDepth 100000
set_option maxHeartbeats 4000000
namespace L2
open PySem PySem.Spec PyProof.Rows
theorem tuple_mul1 (l : Addr) (items : Array Value) (n : Nat) (dd : Option Addr) (sl : Array (Option Value)) (u : Tok) :
    Meets (Builtin.«tuple.__mul__» ⟨[.ref l, .int 1 u], []⟩) (fun _ R s => s.heap.get? l = some { cls := .type "tuple", dict := dd, data := .seq items n, slots := sl } ∧ R (.ok (.ret (Value.ref l))) s) :=
  .of_wp fun prog w A R s h => by
    obtain ⟨hp, g, d, tk, os⟩ := s
    obtain ⟨hl, h⟩ := h
    have f1 := AutoSeq1.idx_int
    wp_walk using wpAny_loadPart' hl
    exact ⟨_, rfl, h⟩
theorem tuple_mul0 (l : Addr) (items : Array Value) (n : Nat) (dd : Option Addr) (sl : Array (Option Value)) (x : Int) (u : Tok) (c0 : (decide (x < -(2 ^ 63)) || decide (x ≥ 2 ^ 63)) = false) (c1 : (items.isEmpty || x == 1) = false) (c2 : (decide (x ≤ 0) || items.isEmpty) = true) :
    Meets (Builtin.«tuple.__mul__» ⟨[.ref l, .int x u], []⟩) (fun _ R s => s.heap.get? l = some { cls := .type "tuple", dict := dd, data := .seq items n, slots := sl } ∧
      R (.ok (.ret (Value.ref s.heap.objs.size))) { s with heap := s.heap.push { cls := Value.type "tuple", data := Data.seq #[] }, toks := s.toks }) :=
  .of_wp fun prog w A R s h => by
    obtain ⟨hp, g, d, tk, os⟩ := s
    obtain ⟨hl, h⟩ := h
    have f1 := AutoSeq1.idx_int
    wp_walk using wpAny_loadPart' hl
    repeat (first
      | (refine wpAny_ite_false (decide_eq_false (by rw [c0]; exact Bool.false_ne_true)) ?_; wp_walk using wpAny_loadPart' hl)
      | (refine wpAny_ite_false (decide_eq_false (by rw [c1]; exact Bool.false_ne_true)) ?_; wp_walk using wpAny_loadPart' hl)
      | (refine wpAny_ite_true (decide_eq_true c2) ?_; wp_walk using wpAny_loadPart' hl))
    exact ⟨_, rfl, h⟩
def rRepA (K : PySem.W.Frag) : R2 := fun x y H Q => ∃ l k xs, x = .ref l ∧ y = .int k ∧ SqT K H l xs ∧ xs ≠ [] ∧ -1000 ≤ k ∧ k ≤ 1000 ∧ xs.length ≤ 1000 ∧ (k = 1 → Q (.ref l) H) ∧ (k ≠ 1 → ∀ p, H p = none → Q (.ref p) (upd H p (.tup (List.replicate k.toNat xs).flatten)))
section
variable {X : Cx}
theorem op_repA : OpR X (binaryOp .Mult) (rRepA X.K) := by
  intro pins s σ H x y v u Q I rx ry h
  obtain ⟨l, k, xs, rfl, rfl, hT, hne, h1, h2, hz, q1, q⟩ := h
  by_cases hk : 2 ≤ k
  · exact op_repT pins s σ H _ _ v u Q I rx ry ⟨l, k, xs, rfl, rfl, hT, hne, hk, h2, hz, q (by omega)⟩
  cases rx
  obtain ⟨t, rfl⟩ := ry
  obtain ⟨its, r, ⟨⟨cls, dd, data, sl⟩, ho, hc, n, hd⟩, hs⟩ := I.tuple hT
  simp only at hc hd
  subst hc hd
  have hle : its.length = xs.length := r.length.symm
  have hn : its ≠ [] := fun e => hne (by
    rw [e] at hle
    exact List.eq_nil_of_length_eq_zero hle.symm)
  have hi : its.toArray.isEmpty = false := by
    cases its with
    | nil => exact absurd rfl hn
    | cons a b => rfl
  by_cases hk1 : k = 1
  · subst hk1
    refine wpAny_binaryOp_repeat_ref (T := "tuple") (U := "int") (by decide) ⟨_, ho, rfl⟩ (fun s' => typeIs_int s' 1 t) noFill_tuple_mul F.fills_int_mul F.slot_int_rmul repeat_tuple F.slot_int_index.lookup
      (call_meets F.slot_int_rmul (typeIs_int s 1 t) F.entry_int_rmul (F.args_int_rmul_2 _ _) (int_rmul_tuple 1 t l its.toArray n dd sl)
        ⟨ho, rfl, ⟨_, ho, rfl⟩, call_meets F.slot_tuple_mul ⟨_, ho, rfl⟩ F.entry_tuple_mul (F.args_tuple_mul_2 _ _) (tuple_mul1 l its.toArray n dd sl t) ⟨ho, ?_⟩⟩)
    exact ⟨.ref l, H, I, rfl, q1 rfl⟩
  · have c0 : (decide (k < -(2 ^ 63)) || decide (k ≥ 2 ^ 63)) = false := by
      rw [decide_eq_false (by omega), decide_eq_false (by omega)] <;> rfl
    have c1 : (its.toArray.isEmpty || k == 1) = false := by
      rw [hi, Bool.false_or]
      exact beq_eq_false_iff_ne.mpr (by omega)
    have c2 : (decide (k ≤ 0) || its.toArray.isEmpty) = true := by
      rw [decide_eq_true (by omega)]; rfl
    have e0 : (List.replicate k.toNat xs).flatten = [] := by
      rw [show k.toNat = 0 by omega]; rfl
    refine wpAny_binaryOp_repeat_ref (T := "tuple") (U := "int") (by decide) ⟨_, ho, rfl⟩ (fun s' => typeIs_int s' k t) noFill_tuple_mul F.fills_int_mul F.slot_int_rmul repeat_tuple F.slot_int_index.lookup
      (call_meets F.slot_int_rmul (typeIs_int s k t) F.entry_int_rmul (F.args_int_rmul_2 _ _) (int_rmul_tuple k t l its.toArray n dd sl)
        ⟨ho, rfl, ⟨_, ho, rfl⟩, call_meets F.slot_tuple_mul ⟨_, ho, rfl⟩ F.entry_tuple_mul (F.args_tuple_mul_2 _ _) (tuple_mul0 l its.toArray n dd sl k t c0 c1 c2) ⟨ho, ?_⟩⟩)
    have q := q hk1
    rw [e0] at q
    refine ⟨.ref s.heap.objs.size, _, I.laid (t' := s.toks) (o := .tup []) (fun b ob q => Heap.get?_push_of_some _ q) (Nat.le_refl _) ?_, rfl, q _ (I.hok.fresh (Nat.le_refl _))⟩
    exact ⟨Nat.zero_le _, [], .nil, IsTup.new _ _⟩
end
end L2
end

section
set_option maxHeartbeats 8000000
set_option Elab.async false
set_option linter.all false
set_option maxRecDepth 100000
namespace Ev
open PySem L2

class Errs where
  ca : Nat → Addr
  has : List Nat
  /-- the classes of objects, by their addresses -/
  oc : Nat → Addr
  /-- the defs, by their addresses -/
  fa : Nat → Addr
  /-- how many they are -/
  fn : Nat
variable [Errs]
def XO (cls : Value) (d : Option Addr) (a : Addr) : HO := .ext fun h => ∃ (oe : Obj) (vs : Array Value), h.get? a = some oe ∧ Zc cls d oe ∧ oe.data = .fields vs
def keyDK : Key → PyData
  | .inl i => .int i
  | .inr s => .str s

mutual
/-- a value that reads as data, by the objects of J alone -/
inductive Sh (K : PySem.W.Frag) (J : Hp) : V → PyData → Prop
  | non : Sh K J .non .none
  | bl (b : Bool) : Sh K J (.bl b) (.bool b)
  | int (i : Int) : Sh K J (.int i) (.int i)
  | str (x : Str) : Sh K J (.str x) (.str x)
  | lst {a : Addr} {xs : List V} {ds : List PyData} : J a = some (.lst xs) → ShAll K J xs ds → Sh K J (.ref a) (.list ds)
  | tup {a : Addr} {xs : List V} {ds : List PyData} : J a = some (.tup xs) → ShAll K J xs ds → Sh K J (.ref a) (.tuple ds)
  | scr {a : Addr} {ns : List Int} : SqL K J a (ns.map V.int) → Sh K J (.ref a) (.dict [(.none, .list (ns.map PyData.int))])
  | dK {a : Addr} {o : Obj} {ks : List (Key × V)} {kvs : List (PyData × PyData)} : J a = some (.frz o (.dK ks)) → kvs.map (·.1) = ks.map (fun k => keyDK k.1) → ShAll K J (ks.map (·.2)) (kvs.map (·.2)) → Sh K J (.ref a) (.dict ((.bool false, .none) :: kvs))
  | dT {a : Addr} {o : Obj} {ks : List (List Key × V)} {kvs : List (PyData × PyData)} : J a = some (.frz o (.dT ks)) → kvs.map (·.1) = ks.map (fun k => .tuple (k.1.map keyDK)) → ShAll K J (ks.map (·.2)) (kvs.map (·.2)) → Sh K J (.ref a) (.dict ((.bool true, .none) :: kvs))
  | exc0 {a : Addr} {c : Nat} : c ∈ Errs.has → J a = some (XO (.ref (Errs.ca c)) none a) → Sh K J (.ref a) (.dict [(.none, .int c)])
  | exc1 {a dd : Addr} {c : Nat} {f : Str} {v : V} {x : PyData} : c ∈ Errs.has → J a = some (XO (.ref (Errs.ca c)) (some dd) a) → J dd = some (.xd [(f, v)]) → Sh K J v x → Sh K J (.ref a) (.dict [(.none, .int c), (.str f, x)])
  | fnv (k : Nat) : k < Errs.fn → Sh K J (.ref (Errs.fa k)) (.dict [(.int k, .none)])
inductive ShAll (K : PySem.W.Frag) (J : Hp) : List V → List PyData → Prop
  | nil : ShAll K J [] []
  | cons {v : V} {vs : List V} {d : PyData} {ds : List PyData} : Sh K J v d → ShAll K J vs ds → ShAll K J (v :: vs) (d :: ds)
end
mutual
theorem shMono {K : PySem.W.Frag} {H H' : Hp} (e : Same H H') : ∀ {d : PyData} {v : V}, Sh K H v d → Sh K H' v d
  | _, _, .non => .non
  | _, _, .bl b => .bl b
  | _, _, .int i => .int i
  | _, _, .str x => .str x
  | _, _, .lst h g => .lst (e _ _ h) (shsMono e g)
  | _, _, .tup h g => .tup (e _ _ h) (shsMono e g)
  | _, _, .scr h => .scr (e.seq h)
  | _, _, .dK h k g => .dK (e _ _ h) k (shsMono e g)
  | _, _, .dT h k g => .dT (e _ _ h) k (shsMono e g)
  | _, _, .exc0 n h => .exc0 n (e _ _ h)
  | _, _, .exc1 n h k g => .exc1 n (e _ _ h) (e _ _ k) (shMono e g)
  | _, _, .fnv k h => .fnv k h
theorem shsMono {K : PySem.W.Frag} {H H' : Hp} (e : Same H H') : ∀ {ds : List PyData} {vs : List V}, ShAll K H vs ds → ShAll K H' vs ds
  | _, _, .nil => .nil
  | _, _, .cons h g => .cons (shMono e h) (shsMono e g)
end
mutual
theorem shDp {K : PySem.W.Frag} {H : Hp} : ∀ {d : PyData} {v : V}, d.canLay0 = true → Sh K H v d → Dp K H v d
  | _, _, _, .non => .non
  | _, _, _, .bl b => .bl b
  | _, _, _, .int i => .int i
  | _, _, _, .str x => .str x
  | _, _, c, .lst h g => .lst (.of h) (shsDp (by simpa [PyData.canLay0] using c) g)
  | _, _, c, .tup h g => .tup (.of h) (shsDp (by simpa [PyData.canLay0] using c) g)
  | _, _, c, .scr h => by simp [PyData.canLay0] at c
  | _, _, c, .dK _ _ _ => by simp [PyData.canLay0] at c
  | _, _, c, .dT _ _ _ => by simp [PyData.canLay0] at c
  | _, _, c, .exc0 _ _ => by simp [PyData.canLay0] at c
  | _, _, c, .exc1 _ _ _ _ => by simp [PyData.canLay0] at c
  | _, _, c, .fnv _ _ => by simp [PyData.canLay0] at c
theorem shsDp {K : PySem.W.Frag} {H : Hp} : ∀ {ds : List PyData} {vs : List V}, PyData.canLayAll0 ds = true → ShAll K H vs ds → DpAll K H vs ds
  | _, _, _, .nil => .nil
  | _, _, c, .cons h g => by
    simp only [PyData.canLayAll0, Bool.and_eq_true] at c
    exact .cons (shDp c.1 h) (shsDp c.2 g)
end
theorem shsLen {K : PySem.W.Frag} {H : Hp} : ∀ {ds : List PyData} {vs : List V}, ShAll K H vs ds → vs.length = ds.length
  | _, _, .nil => rfl
  | _, _, .cons _ g => by rw [List.length_cons, List.length_cons, shsLen g]
theorem shsGet {K : PySem.W.Frag} {H : Hp} : ∀ {ds : List PyData} {vs : List V} {i : Nat} {d : PyData}, ShAll K H vs ds → ds[i]? = some d → ∃ v, vs[i]? = some v ∧ Sh K H v d
  | _, _, i, _, .nil, e => by simp at e
  | _, _, 0, _, .cons h _, e => by simp at e; subst e; exact ⟨_, rfl, h⟩
  | _, _, i + 1, d, .cons _ g, e => by
    obtain ⟨v, h1, h2⟩ := shsGet (i := i) (d := d) g (by simpa using e)
    exact ⟨v, by simpa using h1, h2⟩
theorem shsGetV {K : PySem.W.Frag} {H : Hp} : ∀ {ds : List PyData} {vs : List V} {i : Nat} {v : V}, ShAll K H vs ds → vs[i]? = some v → ∃ d, ds[i]? = some d ∧ Sh K H v d
  | _, _, i, _, .nil, e => by simp at e
  | _, _, 0, _, .cons h _, e => by simp at e; subst e; exact ⟨_, rfl, h⟩
  | _, _, i + 1, v, .cons _ g, e => by
    obtain ⟨d, h1, h2⟩ := shsGetV (i := i) (v := v) g (by simpa using e)
    exact ⟨d, by simpa using h1, h2⟩
theorem shsApp {K : PySem.W.Frag} {H : Hp} : ∀ {ds : List PyData} {vs : List V} {es : List PyData} {us : List V}, ShAll K H vs ds → ShAll K H us es → ShAll K H (vs ++ us) (ds ++ es)
  | _, _, _, _, .nil, g => g
  | _, _, _, _, .cons h k, g => .cons h (shsApp k g)
theorem shsSet {K : PySem.W.Frag} {H : Hp} {d : PyData} {v : V} (h : Sh K H v d) : ∀ {ds : List PyData} {vs : List V} {j : Nat}, ShAll K H vs ds → ShAll K H (vs.set j v) (ds.set j d)
  | _, _, _, .nil => .nil
  | _, _, 0, .cons _ g => .cons h g
  | _, _, j + 1, .cons k g => .cons k (shsSet h g)
theorem shsAt {K : PySem.W.Frag} {H : Hp} {ds : List PyData} {vs : List V} {i : Int} {d : PyData} (h : ShAll K H vs ds) (e : atI ds i = some d) : ∃ v, atI vs i = some v ∧ Sh K H v d := by
  unfold atI at e ⊢
  rw [shsLen h]
  cases q : ixN ds.length i with
  | none => rw [q] at e; cases e
  | some j =>
    rw [q] at e
    exact shsGet h e
theorem shsInts {K : PySem.W.Frag} {H : Hp} : ∀ (ns : List Int), ShAll K H (ns.map V.int) (ns.map PyData.int)
  | [] => .nil
  | n :: ns => .cons (.int n) (shsInts ns)

def DRep (K : PySem.W.Frag) (J : Hp) (ho : HO) : Bool → List (PyData × PyData) → Prop
  | false, kvs => ∃ ks : List (Key × V), ho = .dK ks ∧ kvs.map (·.1) = ks.map (fun k => keyDK k.1) ∧ ShAll K J (ks.map (·.2)) (kvs.map (·.2))
  | true, kvs => ∃ ks : List (List Key × V), ho = .dT ks ∧ kvs.map (·.1) = ks.map (fun k => .tuple (k.1.map keyDK)) ∧ ShAll K J (ks.map (·.2)) (kvs.map (·.2))
theorem DRep.mono {K : PySem.W.Frag} {J J' : Hp} (e : Same J J') {ho : HO} : ∀ {t : Bool} {kvs : List (PyData × PyData)}, DRep K J ho t kvs → DRep K J' ho t kvs
  | false, _, ⟨ks, h1, h2, h3⟩ => ⟨ks, h1, h2, shsMono e h3⟩
  | true, _, ⟨ks, h1, h2, h3⟩ => ⟨ks, h1, h2, shsMono e h3⟩
theorem DRep.sh {K : PySem.W.Frag} {J : Hp} {a : Addr} {o : Obj} {ho : HO} (h : J a = some (.frz o ho)) : ∀ {t : Bool} {kvs : List (PyData × PyData)}, DRep K J ho t kvs → Sh K J (.ref a) (dictD t kvs)
  | false, _, ⟨ks, h1, h2, h3⟩ => .dK (by rw [h, h1]) h2 h3
  | true, _, ⟨ks, h1, h2, h3⟩ => .dT (by rw [h, h1]) h2 h3
theorem DRep.mut {K : PySem.W.Frag} {J : Hp} {ho : HO} : ∀ {t : Bool} {kvs : List (PyData × PyData)}, DRep K J ho t kvs → Mut (some ho)
  | false, _, ⟨ks, h1, _, _⟩ => by rw [h1]; exact True.intro
  | true, _, ⟨ks, h1, _, _⟩ => by rw [h1]; exact True.intro

theorem DRep.ntup {K : PySem.W.Frag} {J : Hp} {ho : HO} : ∀ {t : Bool} {kvs : List (PyData × PyData)}, DRep K J ho t kvs → ∀ xs, ho ≠ .tup xs
  | false, _, ⟨_, h, _⟩ => by rw [h]; exact fun _ z => nomatch z
  | true, _, ⟨_, h, _⟩ => by rw [h]; exact fun _ z => nomatch z
def RepF (K : PySem.W.Frag) (H J : Hp) : Fd → V → List Addr → Prop
  | .sh d, v, g => g = [] ∧ Sh K J v d
  | .lst ds, v, g => ∃ a xs, v = .ref a ∧ g = [a] ∧ H a = some (.lst xs) ∧ ShAll K J xs ds
  | .dct t kvs, v, g => ∃ a ho, v = .ref a ∧ g = [a] ∧ H a = some ho ∧ DRep K J ho t kvs
def RepFs (K : PySem.W.Frag) (H J : Hp) : List (Str × Fd) → List (Str × V) → List Addr → Prop
  | [], [], g => g = []
  | (f, x) :: fs, (f', v) :: fv, g => f = f' ∧ ∃ g1 g2, g = g1 ++ g2 ∧ RepF K H J x v g1 ∧ RepFs K H J fs fv g2
  | _, _, _ => False
def RepL (K : PySem.W.Frag) (H J : Hp) : List Addr → List (List PyData) → Prop
  | [], [] => True
  | b :: bs, ds :: dss => (∃ xs, H b = some (.lst xs) ∧ ShAll K J xs ds) ∧ RepL K H J bs dss
  | _, _ => False
def RepDD (K : PySem.W.Frag) (H J : Hp) : List Addr → List (PyData × List (PyData × PyData)) → Prop
  | [], [] => True
  | b :: bs, q :: kss => (∃ ho, H b = some ho ∧ DRep K J ho true q.2) ∧ RepDD K H J bs kss
  | _, _ => False
def RepS (K : PySem.W.Frag) (H J : Hp) : Slot → V → List Addr → Prop
  | .non, _, _ => False
  | .sh d, v, g => g = [] ∧ Sh K J v d
  | .lst ds, v, g => ∃ a xs, v = .ref a ∧ g = [a] ∧ H a = some (.lst xs) ∧ ShAll K J xs ds
  | .dct t kvs, v, g => ∃ a ho, v = .ref a ∧ g = [a] ∧ H a = some ho ∧ DRep K J ho t kvs
  | .obj c fs, v, g => ∃ a dx fv gs, v = .ref a ∧ g = a :: dx :: gs ∧ (a :: dx :: gs).Nodup ∧ H a = some (.ins (Errs.oc c) dx fv) ∧ H dx = some (.own a) ∧ RepFs K H J fs fv gs
  | .rob c fs, v, g => g = [] ∧ ∃ a dx fv, v = .ref a ∧ J a = some (.ins (Errs.oc c) dx fv) ∧ ∀ f d, fs.lookup f = some (.sh d) → ∃ u, fv.lookup f = some u ∧ Sh K J u d
  | .ll t dss, v, g => ∃ a as, v = .ref a ∧ as.Nodup ∧ RepL K H J as dss ∧ ((t = false ∧ g = a :: as ∧ a ∉ as ∧ H a = some (.lst (as.map V.ref))) ∨ (t = true ∧ g = as ∧ J a = some (.tup (as.map V.ref))))
  | .dd kss, v, g => ∃ a as ks, v = .ref a ∧ g = a :: as ∧ (a :: as).Nodup ∧ H a = some (.dK ks) ∧ kss.map (·.1) = ks.map (fun k => keyDK k.1) ∧ ks.map (·.2) = as.map V.ref ∧ RepDD K H J as kss
  | .tl d ds, v, g => ∃ a l vd xs, v = .ref a ∧ g = [l] ∧ J a = some (.tup [vd, .ref l]) ∧ Sh K J vd d ∧ H l = some (.lst xs) ∧ ShAll K J xs ds
theorem RepS.ownL {K : PySem.W.Frag} {H J : Hp} {ds : List PyData} {v : V} {g : List Addr} (h : RepS K H J (.lst ds) v g) : ∃ a ho, v = .ref a ∧ g = [a] ∧ H a = some ho ∧ ∀ J', Same J J' → J' a = some ho → Sh K J' v (.list ds) := by
  obtain ⟨a, xs, h1, h2, h3, h4⟩ := h
  exact ⟨a, _, h1, h2, h3, fun J' js h => by rw [h1]; exact .lst h (shsMono js h4)⟩
theorem RepS.ownD {K : PySem.W.Frag} {H J : Hp} {t : Bool} {kvs : List (PyData × PyData)} {v : V} {g : List Addr} (h : RepS K H J (.dct t kvs) v g) : ∃ a ho, v = .ref a ∧ g = [a] ∧ H a = some ho ∧ Mut (some ho) ∧ ∀ od J', Same J J' → J' a = some (.frz od ho) → Sh K J' v (dictD t kvs) := by
  obtain ⟨a, ho, h1, h2, h3, h4⟩ := h
  exact ⟨a, ho, h1, h2, h3, h4.mut, fun od J' js h => by rw [h1]; exact (h4.mono js).sh h⟩

def Spare (H : Hp) (a : Addr) : Prop := H a = none ∨ ∃ xs, H a = some (.tup xs)
def Held (H : Hp) (a : Addr) : Prop := ∃ o, H a = some o ∧ ∀ xs, o ≠ .tup xs
theorem Held.spare {H : Hp} {a : Addr} (h : Held H a) (n : Spare H a) : False := by
  obtain ⟨o, e, hn⟩ := h
  rcases n with z | ⟨xs, z⟩
  · rw [e] at z; cases z
  · rw [e] at z; exact hn xs (Option.some.inj z)
structure Wf (K : PySem.W.Frag) (H J : Hp) (sg : St) (r : Ro) (fp : Nat → List Addr) : Prop where
  same : Same J H
  len : sg.length = r.length
  rep : ∀ i s, r[i]? = some s → s ≠ .non → ∃ v, sg[i]? = some (some v) ∧ RepS K H J s v (fp i)
  emp : ∀ i, (r[i]? = none ∨ r[i]? = some .non) → fp i = []
  dis : ∀ i j a, a ∈ fp i → a ∈ fp j → i = j
  jn : ∀ i a, a ∈ fp i → J a = none ∧ Held H a

abbrev Own (fp : Nat → List Addr) (a : Addr) : Prop := ∃ i, a ∈ fp i
structure Step (F : Addr → Prop) (H J : Hp) (F' : Addr → Prop) (H' J' : Hp) : Prop where
  js : Same J J'
  fr : ∀ b o, H b = some o → ¬ F b → H' b = some o
  fn : ∀ a, F' a → F a ∨ H a = none
  jg : ∀ a, J' a ≠ none → J a ≠ none ∨ F a ∨ Spare H a

theorem Step.refl {F : Addr → Prop} {H J : Hp} : Step F H J F H J := ⟨Same.refl _, fun _ _ h _ => h, fun _ h => .inl h, fun _ h => .inl h⟩
theorem Step.gone {F F' : Addr → Prop} {H J H' J' : Hp} (s : Step F H J F' H' J') {a : Addr} (h : H' a = none) : F a ∨ H a = none := by
  cases e : H a with
  | none => exact .inr rfl
  | some o =>
    refine .inl ?_
    apply Classical.byContradiction
    intro n
    rw [s.fr a o e n] at h
    cases h
theorem Step.spare {F F' : Addr → Prop} {H J H' J' : Hp} (s : Step F H J F' H' J') {a : Addr} (h : Spare H' a) : F a ∨ Spare H a := by
  by_cases n : F a
  · exact .inl n
  · refine .inr ?_
    cases e : H a with
    | none => exact .inl e
    | some o =>
      have e' := s.fr a o e n
      rcases h with h | ⟨xs, h⟩
      · rw [h] at e'; cases e'
      · rw [h] at e'; exact .inr ⟨xs, by rw [e, ← Option.some.inj e']⟩
theorem Step.trans {F F1 F2 : Addr → Prop} {H J H1 J1 H2 J2 : Hp} (s : Step F H J F1 H1 J1) (t : Step F1 H1 J1 F2 H2 J2) : Step F H J F2 H2 J2 where
  js := s.js.trans t.js
  fr := fun b o h n => t.fr b o (s.fr b o h n) fun q => (s.fn b q).elim n fun z => by rw [z] at h; cases h
  fn := fun a q => (t.fn a q).elim (fun q => s.fn a q) fun z => s.gone z
  jg := fun a q => by
    rcases t.jg a q with z | z | z
    · exact s.jg a z
    · exact .inr ((s.fn a z).imp id .inl)
    · exact .inr (s.spare z)
theorem Step.weak {F F1 F2 : Addr → Prop} {H J H1 J1 : Hp} (s : Step F H J F1 H1 J1) (h : ∀ a, F2 a → F1 a) : Step F H J F2 H1 J1 := ⟨s.js, s.fr, fun a q => s.fn a (h a q), s.jg⟩
theorem Step.widen {F F0 F1 : Addr → Prop} {H J H1 J1 : Hp} (s : Step F H J F1 H1 J1) (h : ∀ a, F a → F0 a) : Step F0 H J F1 H1 J1 :=
  ⟨s.js, fun b o e n => s.fr b o e fun q => n (h b q), fun a q => (s.fn a q).imp (h a) id, fun a q => (s.jg a q).imp id (fun z => z.imp (h a) id)⟩
theorem RepF.step {K : PySem.W.Frag} {F F' : Addr → Prop} {H J H' J' : Hp} (t : Step F H J F' H' J') : ∀ {x : Fd} {v : V} {g : List Addr}, RepF K H J x v g → (∀ a ∈ g, ¬ F a) → RepF K H' J' x v g
  | .sh d, v, g, ⟨h1, h2⟩, _ => ⟨h1, shMono t.js h2⟩
  | .lst ds, v, g, ⟨a, xs, e1, e2, h, k⟩, n => ⟨a, xs, e1, e2, t.fr a _ h (n a (by rw [e2]; exact List.mem_singleton.mpr rfl)), shsMono t.js k⟩
  | .dct _ _, v, g, ⟨a, ho, e1, e2, h, k⟩, n => ⟨a, ho, e1, e2, t.fr a _ h (n a (by rw [e2]; exact List.mem_singleton.mpr rfl)), k.mono t.js⟩
theorem RepF.there {K : PySem.W.Frag} {H J : Hp} : ∀ {x : Fd} {v : V} {g : List Addr}, RepF K H J x v g → ∀ a ∈ g, Held H a
  | .sh d, v, g, ⟨h1, h2⟩, a, q => by rw [h1] at q; cases q
  | .lst ds, v, g, ⟨a, xs, e1, e2, h, k⟩, b, q => by
    rw [e2] at q
    cases List.mem_singleton.mp q
    exact ⟨_, h, fun _ z => nomatch z⟩
  | .dct _ _, v, g, ⟨a, ho, e1, e2, h, k⟩, b, q => by
    rw [e2] at q
    cases List.mem_singleton.mp q
    exact ⟨_, h, k.ntup⟩
theorem RepFs.step {K : PySem.W.Frag} {F F' : Addr → Prop} {H J H' J' : Hp} (t : Step F H J F' H' J') : ∀ {fs : List (Str × Fd)} {fv : List (Str × V)} {g : List Addr}, RepFs K H J fs fv g → (∀ a ∈ g, ¬ F a) → RepFs K H' J' fs fv g
  | [], [], g, h, _ => h
  | [], _ :: _, g, h, _ => h.elim
  | _ :: _, [], g, h, _ => h.elim
  | (f, x) :: fs, (f', v) :: fv, g, ⟨e, g1, g2, eg, h1, h2⟩, n => ⟨e, g1, g2, eg, h1.step t fun a q => n a (by rw [eg]; exact List.mem_append.mpr (.inl q)), h2.step t fun a q => n a (by rw [eg]; exact List.mem_append.mpr (.inr q))⟩
theorem RepFs.there {K : PySem.W.Frag} {H J : Hp} : ∀ {fs : List (Str × Fd)} {fv : List (Str × V)} {g : List Addr}, RepFs K H J fs fv g → ∀ a ∈ g, Held H a
  | [], [], g, h, a, q => by rw [show g = [] from h] at q; cases q
  | [], _ :: _, g, h, _, _ => h.elim
  | _ :: _, [], g, h, _, _ => h.elim
  | (f, x) :: fs, (f', v) :: fv, g, ⟨e, g1, g2, eg, h1, h2⟩, a, q => by
    rw [eg] at q
    exact (List.mem_append.mp q).elim (h1.there a) (h2.there a)
theorem RepL.step {K : PySem.W.Frag} {F F' : Addr → Prop} {H J H' J' : Hp} (t : Step F H J F' H' J') : ∀ {as : List Addr} {dss : List (List PyData)}, RepL K H J as dss → (∀ a ∈ as, ¬ F a) → RepL K H' J' as dss
  | [], [], _, _ => trivial
  | [], _ :: _, h, _ => h.elim
  | _ :: _, [], h, _ => h.elim
  | b :: bs, ds :: dss, ⟨⟨xs, h1, h2⟩, h⟩, n => ⟨⟨xs, t.fr b _ h1 (n b (by simp)), shsMono t.js h2⟩, h.step t fun a q => n a (List.mem_cons_of_mem _ q)⟩
theorem RepL.there {K : PySem.W.Frag} {H J : Hp} : ∀ {as : List Addr} {dss : List (List PyData)}, RepL K H J as dss → ∀ a ∈ as, Held H a
  | [], [], _, a, q => by cases q
  | [], _ :: _, h, _, _ => h.elim
  | _ :: _, [], h, _, _ => h.elim
  | b :: bs, ds :: dss, ⟨⟨xs, h1, h2⟩, h⟩, a, q => by
    rcases List.mem_cons.mp q with rfl | q
    · exact ⟨_, h1, fun _ z => nomatch z⟩
    · exact h.there a q
theorem RepDD.step {K : PySem.W.Frag} {F F' : Addr → Prop} {H J H' J' : Hp} (t : Step F H J F' H' J') : ∀ {as : List Addr} {kss : List (PyData × List (PyData × PyData))}, RepDD K H J as kss → (∀ a ∈ as, ¬ F a) → RepDD K H' J' as kss
  | [], [], _, _ => trivial
  | [], _ :: _, h, _ => h.elim
  | _ :: _, [], h, _ => h.elim
  | b :: bs, q :: kss, ⟨⟨ho, h1, h2⟩, h⟩, n => ⟨⟨ho, t.fr b _ h1 (n b (by simp)), h2.mono t.js⟩, h.step t fun a q => n a (List.mem_cons_of_mem _ q)⟩
theorem RepDD.there {K : PySem.W.Frag} {H J : Hp} : ∀ {as : List Addr} {kss : List (PyData × List (PyData × PyData))}, RepDD K H J as kss → ∀ a ∈ as, Held H a
  | [], [], _, a, q => by cases q
  | [], _ :: _, h, _, _ => h.elim
  | _ :: _, [], h, _, _ => h.elim
  | b :: bs, p :: kss, ⟨⟨ho, h1, h2⟩, h⟩, a, q => by
    rcases List.mem_cons.mp q with rfl | q
    · exact ⟨_, h1, h2.ntup⟩
    · exact h.there a q
theorem RepS.step {K : PySem.W.Frag} {F F' : Addr → Prop} {H J H' J' : Hp} (t : Step F H J F' H' J') : ∀ {s : Slot} {v : V} {g : List Addr}, RepS K H J s v g → (∀ a ∈ g, ¬ F a) → RepS K H' J' s v g
  | .non, _, _, h, _ => h
  | .sh d, v, g, ⟨h1, h2⟩, _ => ⟨h1, shMono t.js h2⟩
  | .lst ds, v, g, ⟨a, xs, e1, e2, h, k⟩, n => ⟨a, xs, e1, e2, t.fr a _ h (n a (by rw [e2]; exact List.mem_singleton.mpr rfl)), shsMono t.js k⟩
  | .dct _ _, v, g, ⟨a, ho, e1, e2, h, k⟩, n => ⟨a, ho, e1, e2, t.fr a _ h (n a (by rw [e2]; exact List.mem_singleton.mpr rfl)), k.mono t.js⟩
  | .obj _ _, v, g, ⟨a, dx, fv, gs, e1, e2, nd, h, k, q⟩, n => ⟨a, dx, fv, gs, e1, e2, nd, t.fr a _ h (n a (by rw [e2]; simp)), t.fr dx _ k (n dx (by rw [e2]; simp)), q.step t fun b z => n b (by rw [e2]; simp [z])⟩
  | .rob _ _, v, g, ⟨e, a, dx, fv, e1, h, k⟩, _ => ⟨e, a, dx, fv, e1, t.js _ _ h, fun f d z => (k f d z).imp fun u y => ⟨y.1, shMono t.js y.2⟩⟩
  | .ll _ _, v, g, ⟨a, as, e1, nd, h, k⟩, n => ⟨a, as, e1, nd, h.step t fun b q => n b (by rcases k with ⟨_, e, _⟩ | ⟨_, e, _⟩ <;> rw [e] <;> simp [q]), k.imp (fun ⟨x, e, na, y⟩ => ⟨x, e, na, t.fr a _ y (n a (by rw [e]; simp))⟩) fun ⟨x, e, y⟩ => ⟨x, e, t.js _ _ y⟩⟩
  | .dd _, v, g, ⟨a, as, ks, e1, e2, nd, h, k1, k2, q⟩, n => ⟨a, as, ks, e1, e2, nd, t.fr a _ h (n a (by rw [e2]; simp)), k1, k2, q.step t fun b z => n b (by rw [e2]; simp [z])⟩
  | .tl _ _, v, g, ⟨a, l, vd, xs, e1, e2, h, k1, k2, q⟩, n => ⟨a, l, vd, xs, e1, e2, t.js _ _ h, shMono t.js k1, t.fr l _ k2 (n l (by rw [e2]; simp)), shsMono t.js q⟩
theorem RepS.there {K : PySem.W.Frag} {H J : Hp} : ∀ {s : Slot} {v : V} {g : List Addr}, RepS K H J s v g → ∀ a ∈ g, Held H a
  | .non, _, _, h, _, _ => h.elim
  | .sh d, v, g, ⟨h1, h2⟩, a, q => by rw [h1] at q; cases q
  | .lst ds, v, g, ⟨a, xs, e1, e2, h, k⟩, b, q => by
    rw [e2] at q
    cases List.mem_singleton.mp q
    exact ⟨_, h, fun _ z => nomatch z⟩
  | .dct _ _, v, g, ⟨a, ho, e1, e2, h, k⟩, b, q => by
    rw [e2] at q
    cases List.mem_singleton.mp q
    exact ⟨_, h, k.ntup⟩
  | .obj _ _, v, g, ⟨a, dx, fv, gs, e1, e2, nd, h, k, y⟩, b, q => by
    rw [e2] at q
    rcases List.mem_cons.mp q with rfl | q
    · exact ⟨_, h, fun _ z => nomatch z⟩
    · rcases List.mem_cons.mp q with rfl | q
      · exact ⟨_, k, fun _ z => nomatch z⟩
      · exact y.there b q
  | .rob _ _, v, g, ⟨e, _⟩, b, q => by rw [e] at q; cases q
  | .ll _ _, v, g, ⟨a, as, e1, nd, h, k⟩, b, q => by
    rcases k with ⟨_, e, _, y⟩ | ⟨_, e, _⟩
    · rw [e] at q
      rcases List.mem_cons.mp q with rfl | q
      · exact ⟨_, y, fun _ z => nomatch z⟩
      · exact h.there b q
    · rw [e] at q
      exact h.there b q
  | .dd _, v, g, ⟨a, as, ks, e1, e2, nd, h, k1, k2, y⟩, b, q => by
    rw [e2] at q
    rcases List.mem_cons.mp q with rfl | q
    · exact ⟨_, h, fun _ z => nomatch z⟩
    · exact y.there b q
  | .tl _ _, v, g, ⟨a, l, vd, xs, e1, e2, h, k1, k2, y⟩, b, q => by
    rw [e2] at q
    cases List.mem_singleton.mp q
    exact ⟨_, k2, fun _ z => nomatch z⟩

theorem step_new {F : Addr → Prop} {H J : Hp} {p : Addr} {o : HO} (sm : Same J H) (hp : H p = none) : Step F H J F (upd H p o) (upd J p o) where
  js := fun b u e => by rw [upd_ne (ne_of_none (sm b u e) hp)]; exact e
  fr := fun b u e _ => by rw [upd_ne (ne_of_none e hp)]; exact e
  fn := fun _ h => .inl h
  jg := fun a q => by
    by_cases z : a = p
    · exact .inr (.inr (.inl (by rw [z]; exact hp)))
    · rw [upd_ne z] at q; exact .inl q
theorem step_own {F : Addr → Prop} {H J : Hp} {p : Addr} {o : HO} (hp : H p = none) : Step F H J (fun a => F a ∨ a = p) (upd H p o) J where
  js := Same.refl _
  fr := fun b u e _ => by rw [upd_ne (ne_of_none e hp)]; exact e
  fn := fun a h => h.imp id fun z => by rw [z]; exact hp
  jg := fun a q => .inl q
theorem same_upd {H J : Hp} {p : Addr} {o : HO} (sm : Same J H) (hp : H p = none) : Same J (upd H p o) := fun b u e => by
  rw [upd_ne (ne_of_none (sm b u e) hp)]
  exact sm b u e
theorem same_upd2 {H J : Hp} {p : Addr} {o : HO} (sm : Same J H) : Same (upd J p o) (upd H p o) := fun b u e => by
  by_cases z : b = p
  · rw [z, upd_same] at e ⊢; exact e
  · rw [upd_ne z] at e ⊢; exact sm b u e

section
variable {K : PySem.W.Frag} {H J H' J' : Hp} {sg : St} {r : Ro} {fp : Nat → List Addr}
theorem Wf.step {F F' : Addr → Prop} (w : Wf K H J sg r fp) (t : Step F H J F' H' J') (sm : Same J' H') (n : ∀ a, Own fp a → ¬ F a) : Wf K H' J' sg r fp where
  same := sm
  len := w.len
  rep := fun i s e ne => by
    obtain ⟨v, h1, h2⟩ := w.rep i s e ne
    exact ⟨v, h1, h2.step t fun a q => n a ⟨i, q⟩⟩
  emp := w.emp
  dis := w.dis
  jn := fun i a q => by
    obtain ⟨j0, hh⟩ := w.jn i a q
    obtain ⟨o, ho, hnt⟩ := id hh
    have hF := n a ⟨i, q⟩
    refine ⟨?_, o, t.fr a o ho hF, hnt⟩
    cases e : J' a with
    | none => rfl
    | some u =>
      rcases t.jg a (by rw [e]; exact fun z => nomatch z) with z | z | z
      · exact absurd j0 z
      · exact absurd z hF
      · exact (hh.spare z).elim
theorem Wf.new {p : Addr} {o : HO} (w : Wf K H J sg r fp) (hp : H p = none) : Wf K (upd H p o) (upd J p o) sg r fp := by
  refine w.step (F := fun _ => False) (F' := fun _ => False) (step_new w.same hp) (same_upd2 w.same) fun a q z => z
theorem Wf.newOwn {p : Addr} {o : HO} (w : Wf K H J sg r fp) (hp : H p = none) : Wf K (upd H p o) J sg r fp := by
  refine w.step (F := fun _ => False) (F' := fun a => False ∨ a = p) (step_own hp) (same_upd w.same hp) fun a q z => z

def fpSet (fp : Nat → List Addr) (i : Nat) (g : List Addr) : Nat → List Addr := fun j => if j = i then g else fp j
theorem fpSet_same {i : Nat} {g : List Addr} : fpSet fp i g i = g := by unfold fpSet; rw [if_pos rfl]
theorem fpSet_ne {i j : Nat} {g : List Addr} (h : j ≠ i) : fpSet fp i g j = fp j := by unfold fpSet; rw [if_neg h]
theorem own_set {i : Nat} {g : List Addr} {a : Addr} (h : Own (fpSet fp i g) a) : a ∈ g ∨ Own fp a := by
  obtain ⟨j, q⟩ := h
  by_cases z : j = i
  · rw [z, fpSet_same] at q; exact .inl q
  · rw [fpSet_ne z] at q; exact .inr ⟨j, q⟩
theorem own_wipe {i : Nat} {a : Addr} (h : Own (fpSet fp i []) a) : Own fp a := (own_set h).elim (fun z => nomatch z) id
theorem own_wipe_ne {i : Nat} {a : Addr} (w : Wf K H J sg r fp) (h : a ∈ fp i) : ¬ Own (fpSet fp i []) a := fun ⟨j, q⟩ => by
  by_cases z : j = i
  · rw [z, fpSet_same] at q; cases q
  · rw [fpSet_ne z] at q; exact z (w.dis j i a q h)

theorem Wf.drop (w : Wf K H J sg r fp) (i : Nat) : Wf K H J sg (r.set i .non) (fpSet fp i []) where
  same := w.same
  len := by rw [List.length_set]; exact w.len
  rep := fun j s e ne => by
    by_cases z : j = i
    · subst z
      by_cases hl : j < r.length
      · rw [List.getElem?_set_self hl] at e; cases e; exact absurd rfl ne
      · rw [List.getElem?_eq_none (by simpa using hl)] at e; cases e
    · rw [List.getElem?_set_ne (fun q => z q.symm)] at e
      rw [fpSet_ne z]
      exact w.rep j s e ne
  emp := fun j e => by
    by_cases z : j = i
    · rw [z, fpSet_same]
    · rw [List.getElem?_set_ne (fun q => z q.symm)] at e
      rw [fpSet_ne z]
      exact w.emp j e
  dis := fun j k a h1 h2 => by
    by_cases z : j = i
    · rw [z, fpSet_same] at h1; cases h1
    · by_cases y : k = i
      · rw [y, fpSet_same] at h2; cases h2
      · rw [fpSet_ne z] at h1; rw [fpSet_ne y] at h2; exact w.dis j k a h1 h2
  jn := fun j a h1 => by
    by_cases z : j = i
    · rw [z, fpSet_same] at h1; cases h1
    · rw [fpSet_ne z] at h1; exact w.jn j a h1
theorem Wf.put (w : Wf K H J sg r fp) {i : Nat} {s : Slot} {v : V} {g : List Addr} (hi : i < r.length) (hs : RepS K H J s v g) (hg : ∀ a ∈ g, J a = none ∧ ∀ j, j ≠ i → a ∉ fp j) : Wf K H J (sg.set i (some v)) (r.set i s) (fpSet fp i g) where
  same := w.same
  len := by rw [List.length_set, List.length_set]; exact w.len
  rep := fun j t e ne => by
    by_cases z : j = i
    · subst z
      rw [List.getElem?_set_self hi] at e
      cases e
      rw [fpSet_same]
      exact ⟨v, List.getElem?_set_self (by rw [w.len]; exact hi), hs⟩
    · rw [List.getElem?_set_ne (fun q => z q.symm)] at e
      rw [fpSet_ne z, List.getElem?_set_ne (fun q => z q.symm)]
      exact w.rep j t e ne
  emp := fun j e => by
    by_cases z : j = i
    · subst z
      rw [List.getElem?_set_self hi] at e
      rcases e with e | e
      · cases e
      · cases e; exact hs.elim
    · rw [List.getElem?_set_ne (fun q => z q.symm)] at e
      rw [fpSet_ne z]
      exact w.emp j e
  dis := fun j k a h1 h2 => by
    by_cases z : j = i
    · by_cases y : k = i
      · rw [z, y]
      · rw [z, fpSet_same] at h1; rw [fpSet_ne y] at h2; exact absurd h2 ((hg a h1).2 k y)
    · by_cases y : k = i
      · rw [y, fpSet_same] at h2; rw [fpSet_ne z] at h1; exact absurd h1 ((hg a h2).2 j z)
      · rw [fpSet_ne z] at h1; rw [fpSet_ne y] at h2; exact w.dis j k a h1 h2
  jn := fun j a h1 => by
    by_cases z : j = i
    · rw [z, fpSet_same] at h1; exact ⟨(hg a h1).1, hs.there a h1⟩
    · rw [fpSet_ne z] at h1; exact w.jn j a h1
theorem Wf.putKeep (w : Wf K H J sg r fp) {i : Nat} {s : Slot} {v : V} {g : List Addr} (hi : i < r.length) (hv : sg[i]? = some (some v)) (hs : RepS K H J s v g) (hg : ∀ a ∈ g, J a = none ∧ ∀ j, j ≠ i → a ∉ fp j) : Wf K H J sg (r.set i s) (fpSet fp i g) := by
  have e : sg.set i (some v) = sg := by
    apply List.ext_getElem?
    intro j
    by_cases z : i = j
    · subst z; rw [List.getElem?_set_self (by rw [w.len]; exact hi), hv]
    · rw [List.getElem?_set_ne z]
  have q := w.put hi hs hg
  rw [e] at q
  exact q
theorem Wf.freeze (w : Wf K H J sg r fp) {i : Nat} {ds : List PyData} (e : r[i]? = some (.lst ds)) : ∃ v J', Sh K J' v (.list ds) ∧ sg[i]? = some (some v) ∧ Wf K H J' sg (r.set i (.sh (.list ds))) (fpSet fp i []) ∧ Step (Own fp) H J (Own (fpSet fp i [])) H J' := by
  obtain ⟨v, hv, q⟩ := w.rep i _ e (fun z => nomatch z)
  obtain ⟨a, ho, rfl, hg, ha, hsh⟩ := q.ownL
  have hi : i < r.length := (List.getElem?_eq_some_iff.mp e).1
  have own : Own fp a := ⟨i, by rw [hg]; exact List.mem_singleton.mpr rfl⟩
  have jn := (w.jn i a (by rw [hg]; exact List.mem_singleton.mpr rfl)).1
  have js : Same J (upd J a ho) := fun b u q => by rw [upd_ne (ne_of_none q jn)]; exact q
  have sm : Same (upd J a ho) H := fun b u q => by
    by_cases z : b = a
    · rw [z, upd_same] at q; rw [z, ← q]; exact ha
    · rw [upd_ne z] at q; exact w.same b u q
  have w1 := w.drop i
  have st : Step (fun b => b = a) H J (fun _ => False) H (upd J a ho) := ⟨js, fun _ _ h _ => h, fun _ h => h.elim, fun b q => by
    by_cases z : b = a
    · exact .inr (.inl z)
    · rw [upd_ne z] at q; exact .inl q⟩
  have hd' : Sh K (upd J a ho) (.ref a) (.list ds) := hsh _ js upd_same
  have w2 : Wf K H (upd J a ho) sg (r.set i .non) (fpSet fp i []) := w1.step st sm fun b q2 z => by
    have z2 : b = a := z
    rw [z2] at q2
    exact own_wipe_ne w (by rw [hg]; exact List.mem_singleton.mpr rfl) q2
  refine ⟨_, upd J a ho, hd', hv, ?_, js, fun _ _ h _ => h, fun b q => .inl (own_wipe q), fun b q => (st.jg b q).imp id fun z => z.imp (fun y => by rw [y]; exact own) id⟩
  have w3 := w2.putKeep (i := i) (s := .sh (.list ds)) (v := .ref a) (g := []) (by rw [List.length_set]; exact hi) hv ⟨rfl, hd'⟩ (fun b q => nomatch q)
  rw [List.set_set] at w3
  have e2 : fpSet (fpSet fp i []) i [] = fpSet fp i [] := by
    funext j
    by_cases z : j = i
    · rw [z, fpSet_same, fpSet_same]
    · rw [fpSet_ne z]
  rw [e2] at w3
  exact w3
theorem Wf.freezeD (w : Wf K H J sg r fp) {i : Nat} {t : Bool} {kvs : List (PyData × PyData)} (e : r[i]? = some (.dct t kvs)) : ∃ a ho, sg[i]? = some (some (.ref a)) ∧ H a = some ho ∧ Mut (some ho) ∧ ∀ od, ∃ J', Sh K J' (.ref a) (dictD t kvs) ∧ Wf K (upd H a (.frz od ho)) J' sg (r.set i (.sh (dictD t kvs))) (fpSet fp i []) ∧ Step (Own fp) H J (Own (fpSet fp i [])) (upd H a (.frz od ho)) J' := by
  obtain ⟨v, hv, q⟩ := w.rep i _ e (fun z => nomatch z)
  obtain ⟨a, ho, rfl, hg, ha, mu, hsh⟩ := q.ownD
  refine ⟨a, ho, hv, ha, mu, fun od => ?_⟩
  have hi : i < r.length := (List.getElem?_eq_some_iff.mp e).1
  have own : Own fp a := ⟨i, by rw [hg]; exact List.mem_singleton.mpr rfl⟩
  have jn := (w.jn i a (by rw [hg]; exact List.mem_singleton.mpr rfl)).1
  have js : Same J (upd J a (.frz od ho)) := fun b u q => by rw [upd_ne (ne_of_none q jn)]; exact q
  have sm : Same (upd J a (.frz od ho)) (upd H a (.frz od ho)) := fun b u q => by
    by_cases z : b = a
    · rw [z, upd_same] at q ⊢; exact q
    · rw [upd_ne z] at q ⊢; exact w.same b u q
  have w1 := w.drop i
  have st : Step (fun b => b = a) H J (fun _ => False) (upd H a (.frz od ho)) (upd J a (.frz od ho)) := ⟨js, fun b o h n => by rw [upd_ne n]; exact h, fun _ h => h.elim, fun b q => by
    by_cases z : b = a
    · exact .inr (.inl z)
    · rw [upd_ne z] at q; exact .inl q⟩
  have hd' : Sh K (upd J a (.frz od ho)) (.ref a) (dictD t kvs) := hsh od _ js upd_same
  have w2 : Wf K (upd H a (.frz od ho)) (upd J a (.frz od ho)) sg (r.set i .non) (fpSet fp i []) := w1.step st sm fun b q2 z => by
    have z2 : b = a := z
    rw [z2] at q2
    exact own_wipe_ne w (by rw [hg]; exact List.mem_singleton.mpr rfl) q2
  refine ⟨upd J a (.frz od ho), hd', ?_, js, fun b o h n => st.fr b o h fun z => n (by rw [show b = a from z]; exact own), fun b q => .inl (own_wipe q), fun b q => (st.jg b q).imp id fun z => z.imp (fun y => by rw [y]; exact own) id⟩
  have w3 := w2.putKeep (i := i) (s := .sh (dictD t kvs)) (v := .ref a) (g := []) (by rw [List.length_set]; exact hi) hv ⟨rfl, hd'⟩ (fun b q => nomatch q)
  rw [List.set_set] at w3
  have e2 : fpSet (fpSet fp i []) i [] = fpSet fp i [] := by
    funext j
    by_cases z : j = i
    · rw [z, fpSet_same, fpSet_same]
    · rw [fpSet_ne z]
  rw [e2] at w3
  exact w3
end
end Ev
end

section
set_option maxHeartbeats 8000000
set_option Elab.async false
set_option linter.all false
set_option maxRecDepth 100000
namespace Ev
open PySem L2
variable [Errs]

theorem PE.imp {X : Cx} {e : Expr} {t t' : TE} (h : PE X e t) (i : ∀ sg H Q, t' sg H Q → t sg H Q) : PE X e t' := ⟨fun pins s sg H Q I q => h.run pins s sg H Q I (i sg H Q q)⟩
theorem PT.imp {X : Cx} {e : Expr} {t t' : TT} (h : PT X e t) (i : ∀ sg H Q, t' sg H Q → t sg H Q) : PT X e t' := ⟨fun pins s sg H Q I q => h.run pins s sg H Q I (i sg H Q q)⟩
theorem PS.imp {X : Cx} {e : Stmt} {t t' : TS} (h : PS X e t) (i : ∀ D sg H, t' D sg H → t D sg H) : PS X e t' := ⟨fun pins s sg H D I q => h.run pins s sg H D I (i D sg H q)⟩
theorem PSs.imp {X : Cx} {e : List Stmt} {t t' : TS} (h : PSs X e t) (i : ∀ D sg H, t' D sg H → t D sg H) : PSs X e t' := ⟨fun pins s sg H D I q => h.run pins s sg H D I (i D sg H q)⟩
theorem PA.imp {X : Cx} {e : List Expr} {t t' : TA} (h : PA X e t) (i : ∀ sg H Q, t' sg H Q → t sg H Q) : PA X e t' := ⟨fun pos pins s sg H Q I q => h.run pos pins s sg H Q I (i sg H Q q)⟩
theorem PI.or {X : Cx} {tg e : Expr} {t t' : TI} (h : PI X tg e t) (h' : PI X tg e t') : PI X tg e (fun sg H Q => t sg H Q ∨ t' sg H Q) := ⟨fun pins s sg H Q I q => q.elim (fun q => h.run pins s sg H Q I q) fun q => h'.run pins s sg H Q I q⟩
theorem PI.imp {X : Cx} {tg e : Expr} {t t' : TI} (h : PI X tg e t) (i : ∀ sg H Q, t' sg H Q → t sg H Q) : PI X tg e t' := ⟨fun pins s sg H Q I q => h.run pins s sg H Q I (i sg H Q q)⟩

def XRep (K : PySem.W.Frag) (H J : Hp) (c : Nat) (fs : List (PyData × PyData)) (cls : Value) (d : Option Addr) : Prop :=
  c ∈ Errs.has ∧ cls = .ref (Errs.ca c) ∧ ((fs = [] ∧ d = none) ∨ ∃ dd f v x, d = some dd ∧ fs = [(.str f, x)] ∧ J dd = some (.xd [(f, v)]) ∧ Sh K J v x)

section
variable (K : PySem.W.Frag) (W : WX)

def Fin {A : Type} (Rep : Hp → Hp → A → V → List Addr → Prop) (sg : St) (H J : Hp) (fp : Nat → List Addr) (x : R A) (Q : V → Hp → Prop) : Prop := match x with
  | .ok a r' => ∀ v H' J' fp' g, Wf K H' J' sg r' fp' → Rep H' J' a v g → (∀ b ∈ g, J' b = none ∧ ¬ Own fp' b) → Step (Own fp) H J (fun b => Own fp' b ∨ b ∈ g) H' J' → Q v H'
  | .ex c fs r' => ∀ H' J' fp' cls d, Wf K H' J' sg r' fp' → XRep K H' J' c fs cls d → Step (Own fp) H J (Own fp') H' J' → W cls d sg H'
  | .bad => False

def RepD (K : PySem.W.Frag) (H J : Hp) (d : PyData) (v : V) (g : List Addr) : Prop := g = [] ∧ Sh K J v d

variable (Phi : Nat → Ro → FR)
def tEv (c : CE) : TE := fun sg H Q => ∃ J r fp, Wf K H J sg r fp ∧ Fin K W (RepS K) sg H J fp (ev Phi c r) Q
def tSh (c : CE) : TE := fun sg H Q => ∃ J r fp, Wf K H J sg r fp ∧ Fin K W (RepD K) sg H J fp (ev Phi c r).sh Q
end

section
variable {K : PySem.W.Frag} {W : WX} {sg : St} {H J H1 J1 : Hp} {fp fp1 : Nat → List Addr} {A B : Type}
theorem Fin.later {Rep : Hp → Hp → A → V → List Addr → Prop} {x : R A} {Q : V → Hp → Prop} (s : Step (Own fp) H J (Own fp1) H1 J1) (h : Fin K W Rep sg H J fp x Q) : Fin K W Rep sg H1 J1 fp1 x Q := by
  cases x with
  | ok a r => exact fun v H' J' fp' g w q n t => h v H' J' fp' g w q n (s.trans t)
  | ex c fs r => exact fun H' J' fp' cls d w q t => h H' J' fp' cls d w q (s.trans t)
  | bad => exact h
theorem step_nil (s : Step (Own fp) H J (fun b => Own fp1 b ∨ b ∈ ([] : List Addr)) H1 J1) : Step (Own fp) H J (Own fp1) H1 J1 := s.weak fun _ h => .inl h
theorem nil_step (s : Step (Own fp) H J (Own fp1) H1 J1) : Step (Own fp) H J (fun b => Own fp1 b ∨ b ∈ ([] : List Addr)) H1 J1 := s.weak fun _ h => h.elim id fun z => nomatch z
theorem Fin.bindD {Rep : Hp → Hp → B → V → List Addr → Prop} {x : R PyData} {f : PyData → Ro → R B} {Q : V → Hp → Prop} {T : V → Hp → Prop} (h : Fin K W Rep sg H J fp (x.bind f) Q)
    (k : ∀ d r1 v H1 J1 fp1, x = .ok d r1 → Wf K H1 J1 sg r1 fp1 → Sh K J1 v d → Step (Own fp) H J (Own fp1) H1 J1 → Fin K W Rep sg H1 J1 fp1 (f d r1) Q → T v H1) : Fin K W (RepD K) sg H J fp x T := by
  cases x with
  | ok d r1 =>
    intro v H1 J1 fp1 g w q n t
    obtain ⟨rfl, q⟩ := q
    exact k d r1 v H1 J1 fp1 rfl w q (step_nil t) (Fin.later (step_nil t) h)
  | ex c fs r => exact h
  | bad => exact h
theorem freezeT {r : Ro} {ds : List PyData} {v : V} {g : List Addr} (w : Wf K H J sg r fp) (q : RepS K H J (.lst ds) v g) (n : ∀ b ∈ g, J b = none ∧ ¬ Own fp b) : ∃ J', Sh K J' v (.list ds) ∧ Wf K H J' sg r fp ∧ Step (fun b => Own fp b ∨ b ∈ g) H J (Own fp) H J' := by
  obtain ⟨a, ho, rfl, rfl, ha, hsh⟩ := q.ownL
  have jn := (n a (List.mem_singleton.mpr rfl)).1
  have nf := (n a (List.mem_singleton.mpr rfl)).2
  have js : Same J (upd J a ho) := fun b u q => by rw [upd_ne (ne_of_none q jn)]; exact q
  have sm : Same (upd J a ho) H := fun b u q => by
    by_cases z : b = a
    · rw [z, upd_same] at q; rw [z, ← q]; exact ha
    · rw [upd_ne z] at q; exact w.same b u q
  have st : Step (fun b => b = a) H J (fun _ => False) H (upd J a ho) := ⟨js, fun _ _ h _ => h, fun _ h => h.elim, fun b q => by
    by_cases z : b = a
    · exact .inr (.inl z)
    · rw [upd_ne z] at q; exact .inl q⟩
  refine ⟨upd J a ho, hsh _ js upd_same, w.step st sm fun b q2 z => by have z2 : b = a := z; rw [z2] at q2; exact nf q2, js, fun _ _ h _ => h, fun b q => .inl (.inl q), fun b q => ?_⟩
  rcases st.jg b q with z | z | z
  · exact .inl z
  · exact .inr (.inl (.inr (by rw [z]; exact List.mem_singleton.mpr rfl)))
  · exact .inr (.inr z)
theorem freezeTD {r : Ro} {t : Bool} {kvs : List (PyData × PyData)} {v : V} {g : List Addr} (w : Wf K H J sg r fp) (q : RepS K H J (.dct t kvs) v g) (n : ∀ b ∈ g, J b = none ∧ ¬ Own fp b) : ∃ a ho, v = .ref a ∧ H a = some ho ∧ Mut (some ho) ∧ ∀ od, ∃ J', Sh K J' v (dictD t kvs) ∧ Wf K (upd H a (.frz od ho)) J' sg r fp ∧ Step (fun b => Own fp b ∨ b ∈ g) H J (Own fp) (upd H a (.frz od ho)) J' := by
  obtain ⟨a, ho, rfl, rfl, ha, mu, hsh⟩ := q.ownD
  refine ⟨a, ho, rfl, ha, mu, fun od => ?_⟩
  have jn := (n a (List.mem_singleton.mpr rfl)).1
  have nf := (n a (List.mem_singleton.mpr rfl)).2
  have js : Same J (upd J a (.frz od ho)) := fun b u q => by rw [upd_ne (ne_of_none q jn)]; exact q
  have sm : Same (upd J a (.frz od ho)) (upd H a (.frz od ho)) := fun b u q => by
    by_cases z : b = a
    · rw [z, upd_same] at q ⊢; exact q
    · rw [upd_ne z] at q ⊢; exact w.same b u q
  have st : Step (fun b => b = a) H J (fun _ => False) (upd H a (.frz od ho)) (upd J a (.frz od ho)) := ⟨js, fun b o h n => by rw [upd_ne n]; exact h, fun _ h => h.elim, fun b q => by
    by_cases z : b = a
    · exact .inr (.inl z)
    · rw [upd_ne z] at q; exact .inl q⟩
  refine ⟨upd J a (.frz od ho), hsh od _ js upd_same, w.step st sm fun b q2 z => by have z2 : b = a := z; rw [z2] at q2; exact nf q2, js, fun b o h n => st.fr b o h fun z => n (.inr (List.mem_singleton.mpr z)), fun b q => .inl (.inl q), fun b q => ?_⟩
  rcases st.jg b q with z | z | z
  · exact .inl z
  · exact .inr (.inl (.inr (by rw [z]; exact List.mem_singleton.mpr rfl)))
  · exact .inr (.inr z)
def LkQ (Q : V → Hp → Prop) : V → Hp → Prop := fun v H => Q v H ∨ ∃ a u, v = .ref a ∧ H a = some u ∧ Mut (some u) ∧ ∀ od, Q v (upd H a (.frz od u))
theorem Fin.ofSh {x : R Slot} {Q : V → Hp → Prop} (h : Fin K W (RepD K) sg H J fp x.sh Q) : Fin K W (RepS K) sg H J fp x (LkQ Q) := by
  cases x with
  | ok s r1 =>
    intro v H1 J1 fp1 g w q n t
    cases s with
    | non => exact q.elim
    | sh d => exact .inl (h v H1 J1 fp1 g w q n t)
    | lst ds =>
      obtain ⟨J2, q2, w2, s2⟩ := freezeT w q n
      exact .inl (h v H1 J2 fp1 [] w2 ⟨rfl, q2⟩ (fun b z => nomatch z) (nil_step (t.trans s2)))
    | dct t' kvs =>
      obtain ⟨a, ho, ea, ha, mu, k⟩ := freezeTD w q n
      refine .inr ⟨a, ho, ea, ha, mu, fun od => ?_⟩
      obtain ⟨J2, q2, w2, s2⟩ := k od
      exact h v _ J2 fp1 [] w2 ⟨rfl, q2⟩ (fun b z => nomatch z) (nil_step (t.trans s2))
    | obj _ _ => exact h.elim
    | rob _ _ => exact h.elim
    | ll _ _ => exact h.elim
    | tl _ _ => exact h.elim
    | dd _ => exact h.elim
  | ex c fs r => exact h
  | bad => exact h
end
theorem PE.lk {X : Cx} {e : Expr} {t : TE} (h : PE X e t) : PE X e (fun sg H Q => t sg H (LkQ Q)) := by
  refine ⟨fun pins s sg H Q I q => ?_⟩
  refine thn (h.run pins s sg H _ I q) fun v s1 ⟨x, H1, I1, r, q1⟩ => ?_
  rcases q1 with q1 | ⟨a, u, ea, ha, mu, k⟩
  · exact ⟨x, H1, I1, r, q1⟩
  · obtain ⟨od, I2⟩ := I1.lock ha mu
    exact ⟨x, _, I2, r, k od⟩
theorem PE.sh {X : Cx} {W : WX} {Phi : Nat → Ro → FR} {e : Expr} {c : CE} (h : PE X e (tEv X.K W Phi c)) : PE X e (tSh X.K W Phi c) := PE.imp (PE.lk h) fun sg H Q ⟨J, r, fp, w, f⟩ => ⟨J, r, fp, w, Fin.ofSh f⟩

end Ev
end

section
set_option maxHeartbeats 8000000
set_option Elab.async false
set_option linter.all false
set_option maxRecDepth 100000
namespace Ev
open PySem L2
variable [Errs]

def Vw (K : PySem.W.Frag) (H J : Hp) (v : V) (d : PyData) : Prop := Sh K J v d ∨ (∃ a xs ds, v = .ref a ∧ d = .list ds ∧ H a = some (.lst xs) ∧ ShAll K J xs ds) ∨
  ∃ a ho t kvs, v = .ref a ∧ d = .dict ((.bool t, .none) :: kvs) ∧ Rd H a ho ∧ DRep K J ho t kvs
inductive Vws (K : PySem.W.Frag) (H J : Hp) : List V → List PyData → Prop
  | nil : Vws K H J [] []
  | cons {v : V} {vs : List V} {d : PyData} {ds : List PyData} : Vw K H J v d → Vws K H J vs ds → Vws K H J (v :: vs) (d :: ds)
theorem RepS.view {K : PySem.W.Frag} {H J : Hp} : ∀ {s : Slot} {v : V} {g : List Addr} {d : PyData}, RepS K H J s v g → toSh s = some d → Vw K H J v d
  | .non, _, _, _, _, e => nomatch e
  | .sh _, _, _, _, h, e => by cases e; exact .inl h.2
  | .lst ds, _, _, _, ⟨a, xs, h1, _, h3, h4⟩, e => by cases e; exact .inr (.inl ⟨a, xs, ds, h1, rfl, h3, h4⟩)
  | .dct t kvs, _, _, _, ⟨a, ho, h1, _, h3, h4⟩, e => by cases e; exact .inr (.inr ⟨a, ho, t, kvs, h1, rfl, .inl h3, h4⟩)
  | .obj _ _, _, _, _, _, e => nomatch e
  | .rob _ _, _, _, _, _, e => nomatch e
  | .ll _ _, _, _, _, _, e => nomatch e
  | .dd _, _, _, _, _, e => nomatch e
  | .tl _ _, _, _, _, _, e => nomatch e
theorem RepF.view {K : PySem.W.Frag} {H J : Hp} : ∀ {x : Fd} {v : V} {g : List Addr}, RepF K H J x v g → Vw K H J v x.data
  | .sh _, _, _, h => .inl h.2
  | .lst ds, _, _, ⟨a, xs, h1, _, h3, h4⟩ => .inr (.inl ⟨a, xs, ds, h1, rfl, h3, h4⟩)
  | .dct t kvs, _, _, ⟨a, ho, h1, _, h3, h4⟩ => .inr (.inr ⟨a, ho, t, kvs, h1, rfl, .inl h3, h4⟩)

def OdR (K : PySem.W.Frag) (H J : Hp) (fp : Nat → List Addr) (sg : St) (o : Od) (v : V) (g : List Addr) : Prop := match o with
  | .pl i => g = [] ∧ sg[i]? = some (some v)
  | .da d => g = [] ∧ Sh K J v d
  | .tm s => RepS K H J s v g ∧ ∀ b ∈ g, J b = none ∧ ¬ Own fp b

def rd1 (Phi : Nat → Ro → FR) : CE → Ro → R Od
  | .var i, r => if has r i = true then .ok (.pl i) r else .bad
  | e, r => (ev Phi e r).sh.bind fun d r1 => .ok (.da d) r1
def ar1 (Phi : Nat → Ro → FR) : CE → Ro → R Od
  | .ref i, r => if has r i = true then .ok (.pl i) r else .bad
  | .own e, r => (ev Phi e r).bind fun s r1 => .ok (.tm s) r1
  | e, r => (ev Phi e r).sh.bind fun d r1 => .ok (.da d) r1
def it1 (Phi : Nat → Ro → FR) (e : CE) (r : Ro) : R Od := (ev Phi e r).sh.bind fun d r1 => .ok (.da d) r1
def many (f : CE → Ro → R Od) : CEs → Ro → R (List Od)
  | .nil, r => .ok [] r
  | .cons e es, r => (f e r).bind fun d r1 => (many f es r1).bind fun ds r2 => .ok (d :: ds) r2
theorem R.bind_bind {A B C : Type} (x : R A) (f : A → Ro → R B) (g : B → Ro → R C) : (x.bind f).bind g = x.bind fun a r => (f a r).bind g := by cases x <;> rfl
theorem R.ok_bind {A B : Type} (a : A) (r : Ro) (f : A → Ro → R B) : (R.ok a r).bind f = f a r := rfl
theorem R.bind_congr {A B : Type} (x : R A) {f g : A → Ro → R B} (h : ∀ a r, f a r = g a r) : x.bind f = x.bind g := by cases x <;> simp [R.bind, h]
theorem rds_many (Phi : Nat → Ro → FR) : ∀ (es : CEs) (r : Ro), rds Phi es r = many (rd1 Phi) es r
  | .nil, r => by simp only [rds, many]
  | .cons e es, r => by
    have ih := fun r => rds_many Phi es r
    cases e <;> simp only [rds, many, rd1, R.bind_bind, R.ok_bind] <;> first | (split <;> first | (simp only [R.ok_bind]; rw [ih]; done) | rfl) | exact R.bind_congr _ fun a r => by rw [ih]
theorem evA_many (Phi : Nat → Ro → FR) : ∀ (es : CEs) (r : Ro), evA Phi es r = many (ar1 Phi) es r
  | .nil, r => by simp only [evA, many]
  | .cons e es, r => by
    have ih := fun r => evA_many Phi es r
    cases e <;> simp only [evA, many, ar1, R.bind_bind, R.ok_bind] <;> first | (split <;> first | (simp only [R.ok_bind]; rw [ih]; done) | rfl) | exact R.bind_congr _ fun a r => by rw [ih]
def dasOf : List Od → List PyData
  | [] => []
  | .da d :: x => d :: dasOf x
  | _ :: x => dasOf x
theorem evs_many (Phi : Nat → Ro → FR) : ∀ (es : CEs) (r : Ro), evs Phi es r = (many (it1 Phi) es r).bind fun x r1 => .ok (dasOf x) r1
  | .nil, r => by simp only [evs, many, R.ok_bind, dasOf]
  | .cons e es, r => by
    have ih := fun r => evs_many Phi es r
    simp only [evs, many, it1, R.bind_bind, R.ok_bind]
    refine R.bind_congr _ fun a r => ?_
    rw [ih, R.bind_bind]
    exact R.bind_congr _ fun x r1 => by simp only [R.ok_bind, dasOf]
inductive Ods (K : PySem.W.Frag) (H J : Hp) (fp : Nat → List Addr) (sg : St) : List Od → List V → List Addr → Prop
  | nil : Ods K H J fp sg [] [] []
  | cons {o : Od} {x : List Od} {v : V} {vs : List V} {g gs : List Addr} : OdR K H J fp sg o v g → (∀ b ∈ g, b ∉ gs) → Ods K H J fp sg x vs gs → Ods K H J fp sg (o :: x) (v :: vs) (g ++ gs)

theorem has_some {r : Ro} {i : Nat} (h : has r i = true) : ∃ s, r[i]? = some s ∧ s ≠ .non := by
  unfold has at h
  split at h <;> first | (rename_i e; exact ⟨_, e, fun z => nomatch z⟩) | cases h
theorem Step.off {H J H1 J1 : Hp} {F F' : Addr → Prop} (t : Step F H J F' H1 J1) {b : Addr} (hj : J b = none) (hF : ¬ F b) (ho : Held H b) : J1 b = none ∧ ¬ F' b := by
  have hh := ho
  obtain ⟨o, ho, hnt⟩ := ho
  refine ⟨?_, fun q => ?_⟩
  · cases e : J1 b with
    | none => rfl
    | some u =>
      rcases t.jg b (by rw [e]; exact fun z => nomatch z) with z | z | z
      · exact absurd hj z
      · exact absurd z hF
      · exact (hh.spare z).elim
  · rcases t.fn b q with z | z
    · exact hF z
    · rw [ho] at z; cases z
section
variable {K : PySem.W.Frag} {W : WX} {sg : St} {H J H1 J1 H2 J2 : Hp} {fp fp1 fp2 : Nat → List Addr} {A B : Type}
theorem OdR.off {o : Od} {v : V} {g : List Addr} (h : OdR K H J fp sg o v g) : ∀ b ∈ g, J b = none ∧ ¬ Own fp b ∧ Held H b := by
  cases o with
  | pl i => intro b q; rw [h.1] at q; cases q
  | da d => intro b q; rw [h.1] at q; cases q
  | tm s => exact fun b q => ⟨(h.2 b q).1, (h.2 b q).2, h.1.there b q⟩
theorem OdR.step {o : Od} {v : V} {g : List Addr} {gs : List Addr} (h : OdR K H J fp sg o v g) (t : Step (Own fp) H J (fun b => Own fp1 b ∨ b ∈ gs) H1 J1) : OdR K H1 J1 fp1 sg o v g ∧ ∀ b ∈ g, b ∉ gs := by
  have off := h.off
  refine ⟨?_, fun b q z => (t.off (off b q).1 (off b q).2.1 (off b q).2.2).2 (.inr z)⟩
  cases o with
  | pl i => exact h
  | da d => exact ⟨h.1, shMono t.js h.2⟩
  | tm s =>
    refine ⟨h.1.step t fun b q => (h.2 b q).2, fun b q => ?_⟩
    have z := t.off (off b q).1 (off b q).2.1 (off b q).2.2
    exact ⟨z.1, fun y => z.2 (.inl y)⟩
theorem Ods.off : ∀ {x : List Od} {vs : List V} {gs : List Addr}, Ods K H J fp sg x vs gs → ∀ b ∈ gs, J b = none ∧ ¬ Own fp b ∧ Held H b
  | _, _, _, .nil, b, q => nomatch q
  | _, _, _, .cons h n k, b, q => (List.mem_append.mp q).elim (h.off b) (k.off b)
theorem Ods.len : ∀ {x : List Od} {vs : List V} {gs : List Addr}, Ods K H J fp sg x vs gs → vs.length = x.length
  | _, _, _, .nil => rfl
  | _, _, _, .cons _ _ k => by rw [List.length_cons, List.length_cons, k.len]
theorem Ods.views {r : Ro} (w : Wf K H J sg r fp) : ∀ {x : List Od} {vs : List V} {gs : List Addr} {ds : List PyData}, Ods K H J fp sg x vs gs → rdOs r x = some ds → Vws K H J vs ds
  | _, _, _, _, .nil, e => by simp only [rdOs] at e; cases e; exact .nil
  | _, _, _, ds, .cons (o := o) (x := x) (v := v) h _ k, e => by
    simp only [rdOs] at e
    cases e1 : rdO r o with
    | none => rw [e1] at e; cases e
    | some d =>
      rw [e1] at e
      cases e2 : rdOs r x with
      | none => simp only [e2] at e; cases e
      | some ds' =>
        simp only [e2] at e
        cases e
        refine .cons ?_ (k.views w e2)
        cases o with
        | da d' => simp only [rdO] at e1; cases e1; exact .inl h.2
        | tm s => simp only [rdO] at e1; cases e1
        | pl i =>
          simp only [rdO] at e1
          cases e3 : r[i]? with
          | none => rw [e3] at e1; cases e1
          | some s =>
            rw [e3] at e1
            simp only at e1
            obtain ⟨v', hv, q⟩ := w.rep i s e3 (fun z => by rw [z] at e1; cases e1)
            rw [h.2] at hv
            cases hv
            exact q.view e1
end

section
variable (K : PySem.W.Frag) (W : WX) (f1 : CE → Ro → R Od)
def FinO (sg : St) (H J : Hp) (fp : Nat → List Addr) (x : R Od) (Q : V → Hp → Prop) : Prop := match x with
  | .ok a r' => ∀ v H' J' fp' g, Wf K H' J' sg r' fp' → OdR K H' J' fp' sg a v g → Step (Own fp) H J (fun b => Own fp' b ∨ b ∈ g) H' J' → Q v H'
  | .ex c fs r' => ∀ H' J' fp' cls d, Wf K H' J' sg r' fp' → XRep K H' J' c fs cls d → Step (Own fp) H J (Own fp') H' J' → W cls d sg H'
  | .bad => False
def FinOs (sg : St) (H J : Hp) (fp : Nat → List Addr) (x : R (List Od)) (Q : List V → Hp → Prop) : Prop := match x with
  | .ok a r' => ∀ vs H' J' fp' gs, Wf K H' J' sg r' fp' → Ods K H' J' fp' sg a vs gs → Step (Own fp) H J (fun b => Own fp' b ∨ b ∈ gs) H' J' → Q vs H'
  | .ex c fs r' => ∀ H' J' fp' cls d, Wf K H' J' sg r' fp' → XRep K H' J' c fs cls d → Step (Own fp) H J (Own fp') H' J' → W cls d sg H'
  | .bad => False
def tOpd (c : CE) : TE := fun sg H Q => ∃ J r fp, Wf K H J sg r fp ∧ FinO K W sg H J fp (f1 c r) Q
def seqOpd : CEs → TA
  | .nil => tNil
  | .cons c cs => tCons (tOpd K W f1 c) (seqOpd cs)
end

section
variable {K : PySem.W.Frag} {W : WX} {f1 : CE → Ro → R Od} {sg : St}
theorem finO_sh {H J : Hp} {fp : Nat → List Addr} {x : R PyData} {Q : V → Hp → Prop} (h : FinO K W sg H J fp (x.bind fun d r1 => .ok (.da d) r1) Q) : Fin K W (RepD K) sg H J fp x Q := by
  cases x with
  | ok d r => exact fun v H' J' fp' g w q n t => h v H' J' fp' g w q t
  | ex c fs r => exact h
  | bad => exact h
theorem seqOpd_of : ∀ (es : CEs) {H J : Hp} {r : Ro} {fp : Nat → List Addr} {Q : List V → Hp → Prop}, Wf K H J sg r fp → FinOs K W sg H J fp (many f1 es r) Q → seqOpd K W f1 es sg H Q
  | .nil, H, J, r, fp, Q, w, h => h [] H J fp [] w .nil (nil_step Step.refl)
  | .cons c cs, H, J, r, fp, Q, w, h => by
    have h : FinOs K W sg H J fp ((f1 c r).bind fun d r1 => (many f1 cs r1).bind fun ds r2 => .ok (d :: ds) r2) Q := h
    refine ⟨J, r, fp, w, ?_⟩
    cases e : f1 c r with
    | bad => rw [e] at h; exact h
    | ex c fs r1 => rw [e] at h; exact h
    | ok a r1 =>
      rw [e] at h
      intro v H1 J1 fp1 g w1 o1 t1
      have off := o1.off
      have key : ∀ {F : Addr → Prop} {H2 J2 : Hp}, Step (Own fp1) H1 J1 F H2 J2 → Step (Own fp) H J (fun b => F b ∨ b ∈ g) H2 J2 := fun {F H2 J2} t2 => by
        have t1' : Step (Own fp) H J (fun b => Own fp1 b ∨ b ∈ g) H1 J1 := t1
        have t2' : Step (fun b => Own fp1 b ∨ b ∈ g) H1 J1 (fun b => F b ∨ b ∈ g) H2 J2 := ⟨t2.js, fun b o q n => t2.fr b o q fun z => n (.inl z), fun b q => q.elim (fun q => (t2.fn b q).imp .inl id) fun q => .inl (.inr q), fun b q => (t2.jg b q).imp id fun z => z.imp .inl id⟩
        exact t1'.trans t2'
      refine seqOpd_of cs w1 ?_
      show FinOs K W sg H1 J1 fp1 (many f1 cs r1) _
      have h' : FinOs K W sg H J fp ((R.ok a r1).bind fun d r1 => (many f1 cs r1).bind fun ds r2 => .ok (d :: ds) r2) Q := h
      cases e2 : many f1 cs r1 with
      | bad =>
        simp only [R.bind, e2] at h'
        exact h'
      | ex c fs r2 =>
        simp only [R.bind, e2] at h'
        exact fun H2 J2 fp2 cls dd w2 x2 t2 => h' H2 J2 fp2 cls dd w2 x2 ((key t2).weak fun b z => .inl z)
      | ok x r2 =>
        simp only [R.bind, e2] at h'
        intro vs H2 J2 fp2 gs w2 o2 t2
        obtain ⟨o3, n3⟩ := o1.step t2
        refine h' (v :: vs) H2 J2 fp2 (g ++ gs) w2 (.cons o3 n3 o2) ((key t2).weak fun b q => ?_)
        rcases q with q | q
        · exact .inl (.inl q)
        · exact (List.mem_append.mp q).elim .inr fun z => .inl (.inr z)
end
end Ev
end

section
set_option Elab.async false
set_option linter.all false
set_option maxRecDepth 100000
set_option maxHeartbeats 4000000
namespace Ev
open PySem PySem.W PySem.Calls PyProof.Rows
def Sortable2 (ds : List PyData) : Prop := Sortable ds ∨ ∀ d ∈ ds, d = .tuple []
section
variable {prog : Program} {w : World} {A : Around} {E : Value → Shared → Prop} {s : Shared}
theorem call_tuple_lt0 {Q : Value → Shared → Prop} {l b : Addr} {o o2 : Obj} {n n2 : Nat} (h1 : s.heap.get? l = some o) (h2 : o.cls = .type "tuple") (h3 : o.data = .seq #[] n) (k1 : s.heap.get? b = some o2) (k2 : o2.cls = .type "tuple") (k3 : o2.data = .seq #[] n2)
    (h : Q (.bool false) s) : wpAny (model prog w) A (call (.builtin "tuple.__lt__") [.ref l, .ref b]) Q E s := by
  obtain ⟨cls, dd, data, sl⟩ := o
  obtain ⟨cls2, dd2, data2, sl2⟩ := o2
  simp only at h2 h3 k2 k3
  subst h2 h3 k2 k3
  exact call_meets F.slot_tuple_lt ⟨_, h1, rfl⟩ F.entry_tuple_lt (F.args_tuple_lt_2 _ _) (PySem.SeqAt.tuple_ltAt l b #[] #[] n n2 dd dd2 sl sl2 (fun _ => true) (fun _ => true)) ⟨h1, k1, fun j h1 _ => absurd h1 (by simp), fun j h1 _ => absurd h1 (by simp), h⟩
theorem kind_empt {vs : List Value} {Q : SortKind → Shared → Prop} (h2 : 2 ≤ vs.length) (hT : ∀ v ∈ vs, ∃ l o n, v = .ref l ∧ s.heap.get? l = some o ∧ o.cls = .type "tuple" ∧ o.data = .seq #[] n) (h : Q oneType' s) :
    wpAny (model prog w) A (keyKind' vs.toArray) Q E s := by
  have hL : ∀ v ∈ vs, Looks (model prog w) s.heap (typeOf v) (.type "tuple") := fun v hv => by
    obtain ⟨l, o, n, rfl, h1, h2, h3⟩ := hT v hv
    exact fun A Q E s' e q => wpAny_typeOf_ref (by rw [e]; exact h1) (by rw [h2]; exact q)
  obtain ⟨v₁, v₂, rest, rfl⟩ : ∃ v₁ v₂ rest, vs = v₁ :: v₂ :: rest := by
    match vs, h2 with
    | [], h2 => simp at h2
    | [_], h2 => simp at h2
    | v₁ :: v₂ :: rest, _ => exact ⟨v₁, v₂, rest, rfl⟩
  rw [keyKind'_eq, List.mapM_toArray, map_eq_pure_bind]
  refine wpAny_bind (wpAny_bind (kas_mapM (r := none) _ (fun v hv Q' hq => ?_) (wpAny_pure ?_)))
  · rw [kas_first_eq]
    refine wpAny_bind ((hL v hv).here ?_)
    rw [if_neg (by simp)]
    obtain ⟨l, o, n, rfl, h1, h2, h3⟩ := hT v hv
    exact wpAny_bind (listItems_at h1 h3 (wpAny_pure hq))
  · rw [if_neg (by simp), if_neg (by simp)]
    rw [oneTypeOnly'_eq, List.mapM_toArray, map_eq_pure_bind]
    refine wpAny_bind (wpAny_bind (wpAny_bind (kas_mapM (r := Value.type "tuple") _ (fun v hv Q' hq => (hL v hv).here hq) (wpAny_pure ?_))))
    have hall : ((List.map (fun _ => Value.type "tuple") (v₁ :: v₂ :: rest)).toArray.all fun x => x == Value.type "tuple") = true := by
      simp only [List.all_toArray, List.all_map, List.all_eq_true]
      intro _ _
      exact beq_self_eq_true _
    have h0 : (List.map (fun _ => Value.type "tuple") (v₁ :: v₂ :: rest)).toArray[0]? = some (Value.type "tuple") := by simp
    rw [h0]
    simp only [hall, if_true]
    exact wpAny_pure (wpAny_pure h)
theorem sorts_at {vs : List Value} {ds : List PyData} (e : EachIs (fun v d => ∃ as, Reads s.heap v d as) vs ds) (hal : AllAlike ds) (hk : Sortable2 ds) (hu : ∀ d, d ∈ ds → A.units + d.depth < cLine) : SortsAt prog w A s (dataKind s.heap ds) vs := by
  rcases hk with hk | hk
  · exact SortsAt.data e hal hk hu
  refine ⟨fun v hv => ?_, oneType', ?_, fun h2 E Q hq => ?_⟩
  · obtain ⟨d, hd, as, r⟩ := e.left v hv
    exact ⟨_, dataKind_some hal hd r⟩
  · intro E x y a b Q ha hb hq
    obtain ⟨d, as, hd, ra, rfl⟩ := dataKind_inv ha
    obtain ⟨d', as', hd', rb, rfl⟩ := dataKind_inv hb
    have h0 := hu _ hd
    obtain rfl := hk d hd
    obtain rfl := hk d' hd'
    have hq' : Q (dataLt (.tuple []) (.tuple [])) s := hq
    rw [show dataLt (.tuple []) (.tuple []) = false by rw [dataLt_tuple]; rfl] at hq'
    cases ra with
    | @tuple l o xs n _ _ h1 h2 h3 h4 =>
      cases rb with
      | @tuple l' o' xs' n' _ _ k1 k2 k3 k4 =>
        have n1 : xs.size = 0 := by simpa using SeqAt.ReadsAll.length _ _ _ h4
        have n2 : xs'.size = 0 := by simpa using SeqAt.ReadsAll.length _ _ _ k4
        obtain rfl := Array.eq_empty_of_size_eq_zero n1
        obtain rfl := Array.eq_empty_of_size_eq_zero n2
        rw [keyLt'_oneType, oneLt'_eq]
        simp only [if_true]
        refine wpAny_bind (wpAny_cRoomFor (Nat.lt_of_le_of_lt (Nat.le_add_right _ _) h0) ?_)
        refine wpAny_bind (wpAny_callSpecialIfBound?_slot (T := "tuple") ⟨_, h1, h2⟩ F.slot_tuple_lt (call_tuple_lt0 h1 h2 h3 k1 k2 k3 ?_))
        exact wpAny_truthy_bool hq'
  · refine kind_empt h2 (fun v hv => ?_) hq
    obtain ⟨d, hd, as, r⟩ := e.left v hv
    obtain rfl := hk d hd
    cases r with
    | @tuple l o xs n _ _ h1 h2 h3 h4 =>
      have n1 : xs.size = 0 := by simpa using SeqAt.ReadsAll.length _ _ _ h4
      obtain rfl := Array.eq_empty_of_size_eq_zero n1
      exact ⟨l, o, n, rfl, h1, h2, h3⟩
variable {β : Type} {vs : List Value} {bs : List β} {enc : β → PyData} {R : Value → β → Prop}
theorem sorted_lst {l : Addr} {Q : Value → Shared → Prop} (hl : s.heap.IsList l vs.toArray) (e : EachIs R vs bs) (er : EachIs (fun v b => ∃ as, Reads s.heap v (enc b) as) vs bs) (hal : AllAlike (bs.map enc)) (hk : Sortable2 (bs.map enc)) (hL : bs.length ≤ sizeLine)
    (hu : ∀ b, b ∈ bs → A.units + 2 + (enc b).depth < cLine) (h : ∀ out, out.length = bs.length → EachIs R out (bs.mergeSort (dataLe false enc)) → Q (.ref (s.heap.objs.size + 1)) { s with heap := sortedAll s.heap vs (List.toArray out) }) :
    wpAny (model prog w) A (call (.builtin "sorted") [.ref l]) Q E s := by
  have er' : EachIs (fun v b => ∃ as, Reads (sortingHeap (copyHeap s.heap vs) (s.heap.objs.size + 1) vs) v (enc b) as) vs bs := er.mono fun _ _ ⟨as, r⟩ => ⟨as, PyProof.Rows.Reads.keeps (fun _ _ => sorting_copy_old) r⟩
  exact sorted_vals hl (sorts_at (s := { s with heap := sortingHeap (copyHeap s.heap vs) (s.heap.objs.size + 1) vs }) (each_map (R := fun v d => ∃ as, Reads (sortingHeap (copyHeap s.heap vs) (s.heap.objs.size + 1) vs) v d as) enc er') hal hk (bound_map hu)) (by rw [e.length]; exact hL)
    (h _ (by rw [sortVals_length false rfl]; exact e.length) (sortVals_data false e er' hal))
end
theorem sortable_of {es : List PyData} (h2 : (es.all neTup || (es.all noTup || emp1 es)) = true) : Sortable2 es := by
  simp only [Bool.or_eq_true, List.all_eq_true] at h2
  rcases h2 with h2 | h2 | h2
  · refine .inl (.inl fun d hd => ?_)
    have := h2 d hd
    unfold neTup at this
    split at this
    · exact ⟨_, _, rfl⟩
    · cases this
  · refine .inl (.inr fun d hd => ?_)
    have := h2 d hd
    unfold noTup at this
    refine ⟨fun z => ?_, fun xs z => ?_⟩
    · rw [z] at this; cases this
    · rw [z] at this; cases this
  · refine .inr fun d hd => ?_
    have := (List.all_eq_true.mp h2) d hd
    unfold isE at this
    split at this
    · rfl
    · cases this
end Ev
end

section
set_option Elab.async false
set_option linter.all false
set_option maxRecDepth 100000
set_option maxHeartbeats 4000000
namespace Ev
open PySem PySem.W PySem.Calls PyProof.Rows
section
variable {prog : Program} {w : World} {A : Around} {E : Value → Shared → Prop} {s : Shared}
theorem collect_tup {l : Addr} {vs : List Value} {Q : List Value → Shared → Prop} (hl : IsTup s.heap l vs.toArray) (hsz : vs.length ≤ sizeLine)
    (h : Q vs { s with heap := (s.heap.push (seqObj "list" #[] 0)).update s.heap.objs.size (Obj.mapSeq (· ++ vs.toArray)) }) :
    wpAny (model prog w) A (collect (.ref l)) Q E s := by
  obtain ⟨o, ho, hc, n, hd⟩ := id hl
  unfold collect
  refine wpAny_bind (wpAny_runValue (codeAny_builtin entry_proto_collect' ?_))
  refine wpAny_bind (wpAny_newList (wpAny_pure ⟨Code.quiet_builtin _ (by decide +kernel), codeAny_builtin entry_list_iadd' ?_⟩))
  show wpAny _ _ (Builtin.List.listExtendWith (.ref s.heap.objs.size) (.ref l) (.ref s.heap.objs.size)) _ _ { s with heap := s.heap.push (seqObj "list" #[] 0) }
  unfold Builtin.List.listExtendWith
  have ho' : (s.heap.push (seqObj "list" #[] 0)).get? l = some o := Heap.get?_push_of_some _ ho
  refine wpAny_bind (wpAny_typeOf (T := "tuple") ⟨o, ho', hc⟩ ?_)
  have ht : (Value.type "tuple" == Value.type "tuple") = true := by rfl
  rw [if_pos (by rw [ht]; simp)]
  refine wpAny_bind (listItems_at ho' hd ?_)
  refine wpAny_bind (listItems_at (xs := #[]) (n := 0) (Heap.get?_push_size _ rfl) rfl ?_)
  rw [if_neg (by simp)]
  refine wpAny_bind (listUpdate_at (xs := #[]) (n := 0) (Heap.get?_push_size _ rfl) rfl ?_ (Nat.zero_le _) (by show (#[] ++ vs.toArray).size ≤ sizeLine + 1; simp only [Array.size_append, List.size_toArray, List.length_nil]; omega))
  refine wpAny_pure ?_
  refine wpAny_bind (wpAny_load (get?_update_seq (Heap.get?_push_size _ rfl) _) ?_)
  show wpAny _ _ (pure ((#[] : Array Value) ++ vs.toArray).toList) Q E _
  rw [show ((#[] : Array Value) ++ vs.toArray).toList = vs by simp]
  exact wpAny_pure h
theorem sorted_tup {β : Type} {vs : List Value} {bs : List β} {enc : β → PyData} {R : Value → β → Prop} {l : Addr} {Q : Value → Shared → Prop} (hl : IsTup s.heap l vs.toArray) (e : EachIs R vs bs) (er : EachIs (fun v b => ∃ as, Reads s.heap v (enc b) as) vs bs) (hal : AllAlike (bs.map enc)) (hk : Sortable2 (bs.map enc)) (hL : bs.length ≤ sizeLine)
    (hu : ∀ b, b ∈ bs → A.units + 2 + (enc b).depth < cLine) (h : ∀ out, out.length = bs.length → EachIs R out (bs.mergeSort (dataLe false enc)) → Q (.ref (s.heap.objs.size + 1)) { s with heap := sortedAll s.heap vs (List.toArray out) }) :
    wpAny (model prog w) A (call (.builtin "sorted") [.ref l]) Q E s := by
  have er' : EachIs (fun v b => ∃ as, Reads (sortingHeap (copyHeap s.heap vs) (s.heap.objs.size + 1) vs) v (enc b) as) vs bs := er.mono fun _ _ ⟨as, r⟩ => ⟨as, PyProof.Rows.Reads.keeps (fun _ _ => sorting_copy_old) r⟩
  have hL' : vs.length ≤ sizeLine := by rw [e.length]; exact hL
  refine call_function_entry_kw kind_sorted plain_sorted entry_sorted (args_sorted1 _) ?_
  unfold Builtin.«sorted»
  refine wpAny_bind (m := checkCount "sorted" 1 1 _) (wpAny_pure ?_)
  refine wpAny_bind (collect_tup hl hL' ?_)
  refine wpAny_bind (wpAny_newList ?_ hL')
  have hsz : ((s.heap.push (seqObj "list" #[] 0)).update s.heap.objs.size (Obj.mapSeq (· ++ vs.toArray))).objs.size = s.heap.objs.size + 1 := by
    rw [Heap.size_update, size_push']
  show wpAny _ _ _ _ _ { s with heap := copyHeap s.heap vs }
  rw [hsz]
  refine wpAny_bind (wpAny_holding (wpAny_call_entry_kw slot_list_sort ⟨_, copyHeap_at s.heap vs, rfl⟩ entry_list_sort ?body (args_list_sort _)))
  case body =>
    show wpAny (model prog w) A.in1.in1 (Builtin.«list.sort» ⟨[.ref (s.heap.objs.size + 1)], []⟩) _ _ _
    refine list_sort_vals (s := { s with heap := copyHeap s.heap vs }) (copyHeap_at s.heap vs) (sorts_at (s := { s with heap := sortingHeap (copyHeap s.heap vs) (s.heap.objs.size + 1) vs }) (each_map (R := fun v d => ∃ as, Reads (sortingHeap (copyHeap s.heap vs) (s.heap.objs.size + 1) vs) v d as) enc er') hal hk (bound_map hu)) hL' ?_
    exact ⟨_, rfl, wpAny_pure ⟨_, rfl, h _ (by rw [sortVals_length false rfl]; exact e.length) (sortVals_data false e er' hal)⟩⟩
end
end Ev
end

section
set_option Elab.async false
set_option linter.all false
set_option maxRecDepth 100000
set_option maxHeartbeats 4000000
namespace Ev
open PySem PySem.W PySem.Calls PyProof.Rows
section
variable {prog : Program} {w : World} {A : Around} {E : Value → Shared → Prop} {s : Shared}
theorem sorted_col {β : Type} {v : Value} {bs : List β} {enc : β → PyData} {R : Value → β → Prop} {P : List Value → Heap → Prop} {Q : Value → Shared → Prop}
    (hcol : ∀ R' : List Value → Shared → Prop, (∀ h' tk vs, (∀ b o, s.heap.get? b = some o → h'.get? b = some o) → P vs h' → R' vs { s with heap := h', toks := tk }) → wpAny (model prog w) A.in1 (collect v) R' (fun e s' => E e s') s)
    (e : ∀ vs h', P vs h' → EachIs R vs bs) (er : ∀ vs h', P vs h' → EachIs (fun v b => ∃ as, Reads h' v (enc b) as) vs bs) (hal : AllAlike (bs.map enc)) (hk : Sortable2 (bs.map enc)) (hL : bs.length ≤ sizeLine)
    (hu : ∀ b, b ∈ bs → A.units + 2 + (enc b).depth < cLine)
    (h : ∀ h' h2 tk vs out c, (∀ b o, s.heap.get? b = some o → h'.get? b = some o) → P vs h' → (∀ b o, h'.get? b = some o → h2.get? b = some o) → h2.get? h'.objs.size = some (seqObj "list" (List.toArray out) c) → out.length = bs.length → EachIs R out (bs.mergeSort (dataLe false enc)) → Q (.ref h'.objs.size) { s with heap := h2, toks := tk }) :
    wpAny (model prog w) A (call (.builtin "sorted") [v]) Q E s := by
  refine call_function_entry_kw kind_sorted plain_sorted entry_sorted (args_sorted1 _) ?_
  unfold Builtin.«sorted»
  refine wpAny_bind (m := checkCount "sorted" 1 1 _) (wpAny_pure ?_)
  refine wpAny_bind (hcol _ fun h' tk vs kp hP => ?_)
  have e1 := e vs h' hP
  have er1 := er vs h' hP
  have hL' : vs.length ≤ sizeLine := by rw [e1.length]; exact hL
  refine wpAny_bind (wpAny_newList ?_ hL')
  have ob : (h'.push (seqObj "list" vs.toArray 0)).get? h'.objs.size = some (seqObj "list" vs.toArray 0) := Heap.get?_push_size _ rfl
  have old : ∀ b o, h'.get? b = some o → (h'.push (seqObj "list" vs.toArray 0)).get? b = some o := fun b o q => Heap.get?_push_of_some _ q
  have er' : EachIs (fun v b => ∃ as, Reads (sortingHeap (h'.push (seqObj "list" vs.toArray 0)) h'.objs.size vs) v (enc b) as) vs bs := er1.mono fun _ _ ⟨as, r⟩ => ⟨as, PyProof.Rows.Reads.keeps (fun b o q => sortingHeap_old (Nat.ne_of_lt (Heap.lt_size q)) (old b o q)) r⟩
  show wpAny (model prog w) A.in1 _ _ _ { s with heap := h'.push (seqObj "list" vs.toArray 0), toks := tk }
  refine wpAny_bind (wpAny_holding (wpAny_call_entry_kw slot_list_sort ⟨_, ob, rfl⟩ entry_list_sort ?body (args_list_sort _)))
  case body =>
    show wpAny (model prog w) A.in1.in1 (Builtin.«list.sort» ⟨[.ref h'.objs.size], []⟩) _ _ _
    refine list_sort_vals (s := { s with heap := h'.push (seqObj "list" vs.toArray 0), toks := tk }) ob (sorts_at (s := { s with heap := sortingHeap (h'.push (seqObj "list" vs.toArray 0)) h'.objs.size vs, toks := tk }) (each_map (R := fun v d => ∃ as, Reads (sortingHeap (h'.push (seqObj "list" vs.toArray 0)) h'.objs.size vs) v d as) enc er') hal hk (bound_map hu)) hL' ?_
    refine ⟨_, rfl, wpAny_pure ⟨_, rfl, ?_⟩⟩
    exact h h' _ tk vs _ _ kp hP (fun b o q => (sortedHeap_old (Nat.ne_of_lt (Heap.lt_size q)) (by rw [Heap.size_push]; exact Nat.lt_succ_of_lt (Heap.lt_size q))).trans (old b o q)) (Classical.choose_spec (sortedHeap_at ob)) (by rw [sortVals_length false rfl]; exact e1.length) (sortVals_data false e1 er' hal)
end
end Ev
end

section
set_option maxHeartbeats 8000000
set_option Elab.async false
set_option linter.all false
set_option maxRecDepth 100000
namespace Ev
open PySem PySem.SeqAt PySem.Spec PyProof.Rows
theorem dict_eq_declines_int (l : Addr) (es : Array DictEntry) (n : Nat) (dd : Option Addr) (sl : Array (Option Value)) (b : Int) (u : Tok) :
    Meets (Builtin.«dict.__eq__» ⟨[.ref l, .int b u], []⟩) (fun _ R s => s.heap.get? l = some { cls := .type "dict", dict := dd, data := .dict es n, slots := sl } ∧ R (.ok (.ret .notImplemented)) s) :=
  .of_wp fun prog w A R s h => by obtain ⟨hp, g, d, tk, os⟩ := s; obtain ⟨hl, h⟩ := h; have f1 := F.sub_int_dict; wp_walk using wpAny_loadPart' hl, wpAny_load hl; exact ⟨_, rfl, h⟩
theorem int_eq_declines_dict (b : Int) (u : Tok) (l : Addr) (c : Value) (es : Array DictEntry) (n : Nat) (dd : Option Addr) (sl : Array (Option Value)) :
    Meets (Builtin.«int.__eq__» ⟨[.int b u, .ref l], []⟩) (fun _ R s => s.heap.get? l = some { cls := c, dict := dd, data := .dict es n, slots := sl } ∧ R (.ok (.ret .notImplemented)) s) :=
  .of_wp fun prog w A R s h => by obtain ⟨hp, g, d, tk, os⟩ := s; obtain ⟨hl, h⟩ := h; wp_walk using wpAny_loadPart' hl, wpAny_load hl; exact ⟨_, rfl, h⟩
section
variable {A : Around} {s : Shared}
theorem rc_int_dict {l : Addr} {o : Obj} {es : Array DictEntry} {n : Nat} (b : Int) (u : Tok) (ho : s.heap.get? l = some o) (hc : o.cls = .type "dict") (hd : o.data = .dict es n) (hu : A.units < cLine) : RcAt A s (.int b u) (.ref l) false := fun prog w E Q h => by
  obtain ⟨cls, dd, data, sl⟩ := o
  simp only at hc hd
  subst hc hd
  exact rc_eq_decline_or (k := false) (typeIs_int s b u) ⟨_, ho, rfl⟩ (by decide) F.sub_dict_int F.slot_int_eq F.slot_dict_eq_refl
    (fun _ hq => call_meets F.slot_int_eq (typeIs_int s b u) F.entry_int_eq (F.args_int_eq_2 _ _) (int_eq_declines_dict b u l (.type "dict") es n dd sl) ⟨ho, hq⟩)
    (fun _ hq => call_meets F.slot_dict_eq_refl ⟨_, ho, rfl⟩ F.entry_dict_eq (F.args_dict_eq_2 _ _) (dict_eq_declines_int l es n dd sl b u) ⟨ho, hq⟩)
    (fun _ hq => wpAny_of_eq (rfl : isSame (.int b u) (.ref l) = pure false) hq) (.inr hu) h
theorem eqAt_int_dict {l : Addr} {o : Obj} {es : Array DictEntry} {n : Nat} (b : Int) (u : Tok) (ho : s.heap.get? l = some o) (hc : o.cls = .type "dict") (hd : o.data = .dict es n) (hu : A.units < cLine) : EqAt A s (.int b u) (.ref l) false := fun prog w E Q h => by
  unfold eqBool
  refine wpAny_holding ?_
  refine wpAny_ite_split (fun hab => absurd (eq_of_beq hab) nofun) (fun _ => ?_)
  exact wpAny_bind (rc_int_dict b u ho hc hd hu prog w E _ (wpAny_truthy_bool h))
end
end Ev
end

section
set_option Elab.async false
set_option linter.all false
set_option maxRecDepth 100000
set_option maxHeartbeats 4000000
namespace Ev
open PySem PySem.W PySem.Calls PyProof.Rows L2
section
variable {prog : Program} {w : World} {A : Around} {E : Value → Shared → Prop} {s : Shared}
theorem sum_tup {l : Addr} {its : List Value} {ns : List Int} {Q : Value → Shared → Prop} (hh : A.handled = none) (hl : IsTup s.heap l its.toArray) (hi : IntsAre its ns)
    (h : ∀ h' tk t', (∀ b o, s.heap.get? b = some o → h'.get? b = some o) → Q (.int ns.sum t') { s with heap := h', toks := tk }) : wpAny (model prog w) A (call (.builtin "sum") [.ref l]) Q E s := by
  obtain ⟨xs, e⟩ := hi.allInts.items
  have hn : numsOf (intItems xs).toList = ns := by rw [← e]; exact hi.numsOf
  rw [nums_intItems] at hn
  rw [e] at hl
  have hlt : l < s.heap.objs.size := by obtain ⟨_, e, _⟩ := hl; exact Heap.lt_size e
  have hT : s.heap.IsTuple l (intItems xs) := hl
  refine call_sum_walkG (wpAny_pyIter_tuple hT ?_)
  refine ⟨_, _, _, _, _, _, numAt xs, rfl, Walks.tuple (A := A.in1) hh _ l (Nat.ne_of_lt hlt) (intItems xs), ⟨⟨_, Heap.get?_push_size _ rfl, rfl, rfl⟩, hT.push _⟩, (fun b hb => ?_), (fun _ _ => intItems_at), fun h' tk t' hk => ?_⟩
  · show b < (s.heap.push _).objs.size
    rw [Heap.size_push]
    rcases List.mem_cons.mp hb with rfl | hb
    · exact Nat.lt_succ_self _
    · rcases List.mem_cons.mp hb with rfl | hb
      · exact Nat.lt_succ_of_lt hlt
      · cases hb
  · have := h h' tk t' fun b o q => hk b o (fun z => by rw [List.mem_singleton.mp z] at q; exact absurd (Heap.lt_size q) (Nat.lt_irrefl _)) (Heap.get?_push_of_some _ q)
    have e2 : (intItems xs).size = xs.size := by simp [intItems]
    rw [e2, preSum_eq, List.take_of_length_le (by simp), hn]; exact this
end
end Ev
end

section
set_option maxHeartbeats 8000000
set_option Elab.async false
set_option linter.all false
set_option maxRecDepth 100000
namespace Ev
open PySem PySem.Spec PyProof.Rows L2
structure FnG (P : Program) (w : World) (K : PySem.W.Frag) (mg : Str → Option Value) (base : Heap) (CX : CXT) (k : Nat) (f : Addr) (fd : FuncData) (ps : List Str) (sp : Sp) : Prop where
  len : ∀ vs H Q E, sp vs H Q E → vs.length = ps.length
  run : ∀ (A : Around) (ou : List Env) (s : Shared) (H : Hp) (ar : Args) (us : List Value) (vs : List V) (Q : VK) (E : XK), A.guards = some [] → Room k A → Env0 P w K mg base A ou s H → BindsTo s fd ar (ps.zip us) → Vals vs us → sp vs H Q E → codeAny (model P w) A (.call (.ref f) ar) (CR CX ou P w H s Q E) s
section
variable {CX : CXT} {P : Program} {w : World} {K : PySem.W.Frag} {mg : Str → Option Value} {base : Heap}
theorem fnG_of {k : Nat} {f : Addr} {nm qu : Str} {pa : Arguments} {bd : List Stmt} {sc : Scope} {dV kV dc pm cv ct oc : Value} {an od : Option Addr} {os : Array (Option Value)} {N ps : List Str} {sp : Sp}
    (lk : K.lookup f = some ⟨oc, od, .func (PySem.W.fnOf nm qu pa bd sc dV kV dc pm an cv ct), os⟩) (hc : PySem.W.codeIn K cv qu = true) (S : FnScope N ps sc) (len : ∀ vs H Q E, sp vs H Q E → vs.length = ps.length)
    (hbd : ∀ (A : Around) (ou : List Env) (s : Shared) (H : Hp) (vs : List V) (Q : VK) (E : XK), A.guards = some [] → Room k (A.deeper (envOfC qu sc s.heap.objs.size f cv)) → sp vs H Q E → ∃ t, PSs (cxOf CX P w K mg base N qu sc f cv A ou s H E) bd t ∧ t { nx := fun _ H' => Q .non H', rt := Q } (start N vs) H) :
    FnG P w K mg base CX (k + 1) f (PySem.W.fnOf nm qu pa bd sc dV kV dc pm an cv ct) ps sp where
  len := len
  run := by
    intro A ou s H ar us vs Q E gd hr e0 hb rv hs
    have kx : K.In s.heap := e0.mod.kin.keeps fun b o q => (e0.bs b o q).1
    have nl : s.heap.NoLimit := e0.mod.nolimit.keeps fun b o q => (e0.bs b o q).1
    have hkd : ∀ y ∈ ps.zip us, sc.names.lookup y.1 = some .local ∨ (sc.names.lookup y.1 = some .cell ∧ ((cellsFrom (s.heap.objs.size + 1) sc.names []).lookup y.1).isSome = true) := by
      rintro ⟨n, v⟩ hy
      exact (S.par n (List.of_mem_zip hy).1).imp id fun q => ⟨q, PySem.W.cellsFrom_some _ _ _ (.inl q)⟩
    refine codeAny_call_function hr.depth (kx _ _ lk) rfl S.co S.gen rfl (PySem.W.codeRec_of kx hc) (hb _ _ _ _ (wpAny_newFunctionEnv_cells S.kind hkd ?_))
    intro en he s1 x
    subst he
    refine ⟨nl.keeps x.toInCall.keep, codeAny_func ?_⟩
    obtain ⟨t, ht, q⟩ := hbd A ou s H vs Q E gd (hr.deeper _) hs
    have st := ht.run [] s1 (start N vs) H _ (inv_start S hr.hd e0 (len _ _ _ _ hs) rv x) q
    refine wpAny_mono st (fun fl s' z => ?_) fun _ _ z => z
    cases fl with
    | ret u => obtain ⟨v, _, H', J, r, q⟩ := z; exact ⟨v, H', J.os, J.bare, J.base, J.hok, r, q⟩
    | next => obtain ⟨_, H', J, q⟩ := z; exact ⟨V.non, H', J.os, J.bare, J.base, J.hok, rfl, q⟩
    | brk => obtain ⟨_, _, _, q⟩ := z; cases q
    | cont => obtain ⟨_, _, _, q⟩ := z; cases q
theorem Fun.okG {x qu : Str} {st : Stmt} {f : Addr} {fd : FuncData} {N ps : List Str} {k : Nat} {sp : Sp} (F : Fun K x qu st f fd) (S : FnScope N ps (defScope st)) (len : ∀ vs H Q E, sp vs H Q E → vs.length = ps.length)
    (hbd : ∀ (cv : Value) (A : Around) (ou : List Env) (s : Shared) (H : Hp) (vs : List V) (Q : VK) (E : XK), A.guards = some [] → Room k (A.deeper (envOfC qu (defScope st) s.heap.objs.size f cv)) → sp vs H Q E →
      ∃ t, PSs (cxOf (L2.CX P w) P w K mg base N qu (defScope st) f cv A ou s H E) (defBody st) t ∧ t { nx := fun _ H' => Q .non H', rt := Q } (start N vs) H) : FnG P w K mg base (L2.CX P w) (k + 1) f fd ps sp := by
  obtain ⟨oc, od, kV, dc, pm, an, cv, ct, os, rfl, lk, hc⟩ := F.ex
  exact fnG_of lk hc S len (hbd cv)
end
section
variable {X : Cx} {CX : CXT} {k : Nat} {f : Addr} {fd : FuncData} {ps : List Str} {sp : Sp} {E : L2.St → XK} {x : Str} {p pos : Pos} {e : Expr} {es : List Expr} {t : TA}
theorem run_fnG {pins : List (Addr × Obj)} {sg : L2.St} {H : Hp} {s : Shared} {Q : VK} {us : List Value} {vs : List V} (F : FnG X.prog X.w X.K X.mg X.base CX k f fd ps sp) (gd : X.A.guards = some []) (hr : Room k X.A) (hb : Binds X.K fd ps []) (hx : PassesAt CX X sg (E sg))
    (I : Inv X pins sg H s) (rv : Vals vs us) (h : sp vs H Q (E sg)) : wpAny (model X.prog X.w) X.A (call (.ref f) us) (EP X pins sg Q) X.xe s := by
  have b := hb s us I.kIn (by rw [List.append_nil, ← rv.length]; exact F.len _ _ _ _ h)
  rw [List.append_nil] at b
  refine wpAny_call (codeAny_mono (F.run X.A X.stack s H ⟨us, []⟩ us vs Q (E sg) gd hr I.env0 b rv h) fun o s' z => ?_)
  match o, z with
  | .error e, z => exact hx pins H s e s' I z
  | .ok (.ret u), z => exact I.after z
  | .ok .next, z => exact False.elim z
  | .ok .brk, z => exact False.elim z
  | .ok .cont, z => exact False.elim z
theorem pe_callG (F : FnG X.prog X.w X.K X.mg X.base CX k f fd ps sp) (gd : X.A.guards = some []) (hr : Room k X.A) (hg : Gl X x) (hm : X.mg x = some (.ref f)) (hk : PySem.W.keepIn X.K (.ref f) = true) (hb : Binds X.K fd ps []) (hx : ∀ sg, PassesAt CX X sg (E sg))
    (ha : PA X (e :: es) t) (hd : (x == ("__debug__" : Str)) = false) (he : starEach (e :: es) X.env = (false, eval e X.env) :: starEach es X.env) (hpl : (backTo pos (starEach es X.env)).any (·.1) = false) : PE X (.Call (.Name x p) (e :: es) [] pos) (tCallS sp E t) where
  run := by
    intro pins s sg H Q I h
    refine wpAny_Call_Name_kw (ld_glob I hg hm (PySem.W.callWith_K (h₀ := X.base) I.ok.mod.kin hk (thn (ha.run pos pins s sg H _ I h) ?_) he hpl) hd)
    rintro us s1 ⟨vs, H1, I1, r, q⟩
    exact ⟨I1.kIn, run_fnG F gd hr hb (hx sg) I1 r q⟩
theorem pe_callG0 (F : FnG X.prog X.w X.K X.mg X.base CX k f fd ps sp) (gd : X.A.guards = some []) (hr : Room k X.A) (hg : Gl X x) (hm : X.mg x = some (.ref f)) (hk : PySem.W.keepIn X.K (.ref f) = true) (hb : Binds X.K fd ps []) (hx : ∀ sg, PassesAt CX X sg (E sg))
    (hd : (x == ("__debug__" : Str)) = false) : PE X (.Call (.Name x p) [] [] pos) (tCallS sp E tNil) := by
  refine ⟨fun pins s sg H Q I h => ?_⟩
  refine wpAny_Call_Name_kw (ld_glob I hg hm ?_ hd)
  exact PySem.W.callWith_K0 I.kIn hk (run_fnG (us := []) F gd hr hb (hx sg) I .nil h)
end
theorem lawG {P : Program} {w : World} {K : PySem.W.Frag} {mg mb : Str → Option Value} {CX : CXT} {k : Nat} {fa a : Addr} {fd : FuncData} {x : Str} {sp : Sp} {s1 : Shared} {vs : List Value} {ns : List Int}
    (kx : K.In s1.heap) (hns : s1.heap.Ns mainGlobals mg) (hb : s1.heap.Ns builtinsNs mb) (hbb : ∀ x : Str, x ≠ "__name__" → mb x = bootBuiltins x) (hlm : s1.heap.NoLimit) (hgn : s1.gens = #[])
    (ha : s1.heap.get? a = some { cls := .type "list", data := .seq vs.toArray }) (hi : IntsAre vs ns) (hl : ns.length ≤ sizeLine) (hr : Room k callerA)
    (F : ∀ base : Heap, K.In base → base.Ns mainGlobals mg → FnG P w K mg base CX k fa fd [x] sp) (hbind : ∀ (s : Shared) (u : Value), BindsTo s fd ⟨[u], []⟩ [(x, u)])
    (hsp : ∀ H : Hp, Only H → SqL K H a (ns.map V.int) → sp [.ref a] H (fun v _ => v = .bl true) fun _ _ _ => False) (hCX : ∀ H e s', CX [] H s1 (fun _ _ _ => False) e s' → False) :
    codeAny (model P w) callerA (.call (.ref fa) ⟨[.ref a], []⟩) (fun r s' => r = .ok (.ret (.bool true)) ∧ OldK s1.heap s'.heap ∧ s'.os = s1.os ∧ AllBare s'.gens) s1 := by
  have rv := vals_ints hi
  have ln := hi.length
  have go : ∀ H : Hp, Only H → SqL K H a (ns.map V.int) → HOk P w H s1.heap → (∀ b, H b ≠ none → b = a) → (H a ≠ none → K.lookup a = none) →
      codeAny (model P w) callerA (.call (.ref fa) ⟨[.ref a], []⟩) (fun r s' => r = .ok (.ret (.bool true)) ∧ OldK s1.heap s'.heap ∧ s'.os = s1.os ∧ AllBare s'.gens) s1 := by
    intro H on hS ok only own
    have isA : ∀ {b u}, H b = some u → b = a := fun {b u} q => only b (by rw [q]; exact fun z => nomatch z)
    have hid : ∀ {b : Addr} {o : Obj}, s1.heap.get? b = some o → H b = none → (hidT s1.heap H).get? b = some o := hidT_get
    have dct : ∀ {b : Addr} {m : Str → Option Value}, s1.heap.Ns b m → (hidT s1.heap H).Ns b m := by
      rintro b m ⟨o, es, ep, e, d, r⟩
      refine ⟨o, es, ep, hid e ?_, d, r⟩
      cases q : H b with
      | none => rfl
      | some u =>
        obtain rfl := isA q
        rw [ha] at e
        cases e
        exact absurd (show Data.seq vs.toArray _ = Data.dict es ep from d) (fun z => nomatch z)
    have kb : K.In (hidT s1.heap H) := by
      intro b o e
      refine hid (kx b o e) ?_
      cases q : H b with
      | none => rfl
      | some u =>
        obtain rfl := isA q
        rw [own (by rw [q]; exact fun z => nomatch z)] at e
        cases e
    have md : Mod K mg (hidT s1.heap H) := ⟨kb, dct hns, ⟨mb, dct hb, hbb⟩, hlm.imp fun mc h => ⟨dct h.1, h.2⟩⟩
    have e0 : Env0 P w K mg (hidT s1.heap H) callerA [] s1 H := ⟨rfl, md, fun b o e => of_hidT e, Nat.le_of_eq (hidT_size _ _), trivial, fun b z => absurd (show b ∈ ([] : List Addr) from z) List.not_mem_nil, ok, .of_eq hgn⟩
    refine codeAny_mono ((F _ kb (dct hns)).run callerA [] s1 H ⟨[.ref a], []⟩ [.ref a] [.ref a] _ _ rfl hr e0 (hbind s1 (.ref a)) (.cons rfl .nil) (hsp H on hS)) ?_
    rintro (e | fl) s' z
    · exact (hCX H e s' z).elim
    · match fl, z with
      | .ret u, z =>
        obtain ⟨v, H', os, br, un, ok', r', q⟩ := z
        obtain rfl : v = .bl true := q
        obtain rfl : u = Value.bool true := r'
        refine ⟨rfl, OldK.of_keep fun b o e => ?_, os, br⟩
        rcases on b with q | ⟨ob, xs, q⟩
        · exact un.keep b o e q (fun z => absurd (show b ∈ ([] : List Addr) from z) List.not_mem_nil) List.not_mem_nil
        · obtain ⟨e1, _⟩ := ok b _ q
          obtain ⟨e2, _⟩ := ok' b _ (un.frzs b ob _ q)
          exact e2.trans (e1.symm.trans e)
      | .next, z => exact False.elim z
      | .brk, z => exact False.elim z
      | .cont, z => exact False.elim z
  cases hk : K.lookup a with
  | some o =>
    obtain rfl : o = _ := Option.some.inj ((kx a o hk).symm.trans ha)
    exact go (fun _ => none) (fun _ => .inl rfl) (.inr ⟨_, vs.toArray, _, hk, rfl, rfl, rfl, by rw [List.size_toArray, ln]; exact hl, by simpa using rv⟩) (fun b u z => nomatch z) (fun b z => absurd rfl z) fun z => absurd rfl z
  | none =>
    let T : Hp := fun b => if b = a then some (.frz { cls := .type "list", data := .seq vs.toArray } (.lst (ns.map V.int))) else none
    have ta : T a = some (.frz { cls := .type "list", data := .seq vs.toArray } (.lst (ns.map V.int))) := if_pos rfl
    have tn : ∀ {b}, b ≠ a → T b = none := fun h => if_neg h
    have tb : ∀ {b}, T b ≠ none → b = a := fun {b} h => Classical.byContradiction fun q => h (tn q)
    refine go T (fun b => ?_) (.inl (.inr ⟨_, ta⟩)) (fun b u z => ?_) (fun b => tb) fun _ => hk
    · by_cases q : b = a
      · rw [q]; exact .inr ⟨_, _, ta⟩
      · exact .inl (tn q)
    · obtain rfl : b = a := tb (by rw [z]; exact fun z => nomatch z)
      rw [ta] at z
      cases z
      exact ⟨ha, by rw [List.length_map]; exact hl, vs, _, rv, ha⟩
theorem walkG {l : PySem.W.OpenLaw} {n k : Nat} {q : Program} {loose : List Str} {XP : (Str → Option Value) → Heap → Prop} {YP : World → Heap → Prop} {d : DefRec} {K : Params → PySem.W.Frag} {CX : World → CXT} {sp : World → Sp} {x : Str}
    (hn : l.most = some n) (hn2 : n ≤ sizeLine) (hdf : d.params.defaults = []) (hr : Room k callerA) (hY : ∀ (w : World) (h : Heap), YP w h → (K w.params).In h)
    (F : ∀ (w : World) (mg : Str → Option Value) (fa : Addr) (h : Heap), (K w.params).In h → h.Ns mainGlobals mg → mg d.name = some (.ref fa) → ∃ fd : FuncData, (∀ (s : Shared) (u : Value), BindsTo s fd ⟨[u], []⟩ [(x, u)]) ∧ ∀ base : Heap, (K w.params).In base → base.Ns mainGlobals mg → FnG l.prog w (K w.params) mg base (CX w) k fa fd [x] (sp w))
    (hsp : ∀ (w : World) (H : Hp) (a : Addr) (ns : List Int), ns.length ≤ n → Only H → SqL (K w.params) H a (ns.map V.int) → sp w [.ref a] H (fun v _ => v = .bl true) fun _ _ _ => False)
    (hCX : ∀ (w : World) (H : Hp) (s : Shared) (e : Value) (s' : Shared), CX w [] H s (fun _ _ _ => False) e s' → False) : PySem.W.WalkO q loose XP YP l.row.toRowW d [] (fun f vs => PySem.call f vs) := by
  refine Att.attach_call hn hdf ?_
  intro w s0 s1 mg mb fa o pm cd dc a vs ns G Y ho hd hcd hmg hob hin hlen hg
  obtain ⟨fd, hb, hF⟩ := F w mg fa _ (hY w _ Y) G.T.g hmg
  exact lawG (hY w _ Y) G.T.g G.T.b G.T.builtins G.T.nolimit hg hob hin (Nat.le_trans hlen hn2) hr hF hb (fun H on hS => hsp w H a ns hlen on hS) fun H e s' => hCX w H s1 e s'
end Ev
end

section
set_option maxHeartbeats 8000000
set_option Elab.async false
set_option linter.all false
set_option maxRecDepth 100000
namespace Ev
open PySem L2
variable [Errs]

def PrimQ (K : PySem.W.Frag) (H J : Hp) (s : Slot) (Q : VK) : Prop :=
  ∀ v H' J' g, RepS K H' J' s v g → (∀ b ∈ g, J' b = none ∧ H b = none) → Step (fun _ => False) H J (fun b => b ∈ g) H' J' → Same J' H' → Q v H'
def rPrim (K : PySem.W.Frag) (o : Op) : List V → Hp → VK → Prop := fun vs H Q => ∃ J ds s, Same J H ∧ Vws K H J vs ds ∧ prim o ds = some s ∧ PrimQ K H J s Q
abbrev rPrim2 (K : PySem.W.Frag) (o : Op) : R2 := fun x y H Q => rPrim K o [x, y] H Q

section
variable {K : PySem.W.Frag} {H J : Hp} {Q : VK}
theorem Vw.int {v : V} {i : Int} (h : Vw K H J v (.int i)) : v = .int i := by
  rcases h with h | ⟨_, _, _, _, e, _⟩ | ⟨_, _, _, _, _, e, _⟩
  · cases h; rfl
  · cases e
  · cases e
theorem Vw.bl {v : V} {i : Bool} (h : Vw K H J v (.bool i)) : v = .bl i := by
  rcases h with h | ⟨_, _, _, _, e, _⟩ | ⟨_, _, _, _, _, e, _⟩
  · cases h; rfl
  · cases e
  · cases e
theorem Vw.str {v : V} {i : Str} (h : Vw K H J v (.str i)) : v = .str i := by
  rcases h with h | ⟨_, _, _, _, e, _⟩ | ⟨_, _, _, _, _, e, _⟩
  · cases h; rfl
  · cases e
  · cases e
theorem Vw.list {v : V} {ds : List PyData} (sm : Same J H) (h : Vw K H J v (.list ds)) : ∃ a xs, v = .ref a ∧ H a = some (.lst xs) ∧ ShAll K J xs ds := by
  rcases h with h | ⟨a, xs, es, e1, e, h1, h2⟩ | ⟨_, _, _, _, _, e, _⟩
  · cases h with
    | lst h g => exact ⟨_, _, rfl, sm _ _ h, g⟩
  · cases e; exact ⟨a, xs, e1, h1, h2⟩
  · cases e
theorem Vw.tuple {v : V} {ds : List PyData} (sm : Same J H) (h : Vw K H J v (.tuple ds)) : ∃ a xs, v = .ref a ∧ J a = some (.tup xs) ∧ H a = some (.tup xs) ∧ ShAll K J xs ds := by
  rcases h with h | ⟨a, xs, es, e1, e, h1, h2⟩ | ⟨_, _, _, _, _, e, _⟩
  · cases h with
    | tup h g => exact ⟨_, _, rfl, h, sm _ _ h, g⟩
  · cases e
  · cases e
theorem Vw.scr {v : V} {ds : List PyData} (sm : Same J H) (h : Vw K H J v (.dict [(.none, .list ds)])) : ∃ a xs, v = .ref a ∧ SqL K H a xs ∧ ShAll K J xs ds := by
  rcases h with h | ⟨a, xs, es, e1, e, h1, h2⟩ | ⟨_, _, _, _, _, e, _⟩
  · generalize e : PyData.dict [(.none, .list ds)] = z at h
    cases h with
    | scr h =>
      injection e with e
      injection e with e _
      injection e with _ e
      injection e with e
      subst e
      exact ⟨_, _, rfl, sm.seq h, shsInts _⟩
    | _ => cases e
  · cases e
  · cases e
theorem Vw.dict {v : V} {t : Bool} {kvs : List (PyData × PyData)} (sm : Same J H) (h : Vw K H J v (.dict ((.bool t, .none) :: kvs))) : ∃ a ho, v = .ref a ∧ Rd H a ho ∧ DRep K J ho t kvs := by
  rcases h with h | ⟨a, xs, es, e1, e, h1, h2⟩ | ⟨a, ho, t', kvs', e1, e, h1, h2⟩
  · cases h with
    | dK h1 h2 h3 => exact ⟨_, _, rfl, .inr ⟨_, sm _ _ h1⟩, _, rfl, h2, h3⟩
    | dT h1 h2 h3 => exact ⟨_, _, rfl, .inr ⟨_, sm _ _ h1⟩, _, rfl, h2, h3⟩
  · cases e
  · cases e; exact ⟨a, ho, e1, h1, h2⟩
theorem Vw.dp {v : V} {d : PyData} (sm : Same J H) (c : d.canLay0 = true) (h : Vw K H J v d) : Dp K H v d := by
  rcases h with h | ⟨a, xs, ds, rfl, rfl, h1, h2⟩ | ⟨_, _, _, _, _, rfl, _⟩
  · exact shDp c (shMono sm h)
  · exact .lst (.of h1) (shsDp (by simpa [PyData.canLay0] using c) (shsMono sm h2))
  · simp [PyData.canLay0] at c
theorem Vws.one {vs : List V} {d : PyData} (h : Vws K H J vs [d]) : ∃ v, vs = [v] ∧ Vw K H J v d := by
  cases h with
  | cons a b => cases b; exact ⟨_, rfl, a⟩
theorem Vws.two {vs : List V} {d e : PyData} (h : Vws K H J vs [d, e]) : ∃ v u, vs = [v, u] ∧ Vw K H J v d ∧ Vw K H J u e := by
  cases h with
  | cons a b =>
    obtain ⟨u, rfl, c⟩ := b.one
    exact ⟨_, _, rfl, a, c⟩
theorem Vws.two' {v u : V} {d e : PyData} (h : Vws K H J [v, u] [d, e]) : Vw K H J v d ∧ Vw K H J u e := by
  obtain ⟨_, _, z, a, b⟩ := h.two
  cases z; exact ⟨a, b⟩
theorem Vws.one' {v : V} {d : PyData} (h : Vws K H J [v] [d]) : Vw K H J v d := by
  obtain ⟨_, z, a⟩ := h.one
  cases z; exact a
theorem PrimQ.val {v : V} {d : PyData} (q : PrimQ K H J (.sh d) Q) (sm : Same J H) (h : Sh K J v d) : Q v H :=
  q v H J [] ⟨rfl, h⟩ (fun b z => nomatch z) ⟨Same.refl _, fun _ _ h _ => h, (fun _ z => nomatch z), fun _ z => .inl z⟩ sm
theorem PrimQ.tup {p : Addr} {xs : List V} {ds : List PyData} (q : PrimQ K H J (.sh (.tuple ds)) Q) (sm : Same J H) (hp : H p = none) (h : ShAll K J xs ds) : Q (.ref p) (upd H p (.tup xs)) := by
  have st : Step (fun _ => False) H J (fun _ => False) (upd H p (.tup xs)) (upd J p (.tup xs)) := step_new sm hp
  exact q _ _ (upd J p (.tup xs)) [] ⟨rfl, .tup upd_same (shsMono st.js h)⟩ (fun b z => nomatch z) (st.weak fun _ z => nomatch z) (same_upd2 sm)
theorem PrimQ.lst {p : Addr} {xs : List V} {ds : List PyData} (q : PrimQ K H J (.lst ds) Q) (sm : Same J H) (hp : H p = none) (h : ShAll K J xs ds) : Q (.ref p) (upd H p (.lst xs)) := by
  have st : Step (fun _ => False) H J (fun b => False ∨ b = p) (upd H p (.lst xs)) J := step_own hp
  have jp : J p = none := by
    cases e : J p with
    | none => rfl
    | some o => rw [sm _ _ e] at hp; cases hp
  refine q _ _ J [p] ⟨p, xs, rfl, rfl, upd_same, h⟩ (fun b z => ?_) (st.weak fun b z => .inr (List.mem_singleton.mp z)) (same_upd sm hp)
  cases List.mem_singleton.mp z
  exact ⟨jp, hp⟩
end

theorem shsRep {K : PySem.W.Frag} {J : Hp} {xs : List V} {ds : List PyData} (h : ShAll K J xs ds) : ∀ k : Nat, ShAll K J (List.replicate k xs).flatten (List.replicate k ds).flatten
  | 0 => .nil
  | k + 1 => by
    rw [List.replicate_succ, List.replicate_succ, List.flatten_cons, List.flatten_cons]
    exact shsApp h (shsRep h k)
theorem shsEach {K : PySem.W.Frag} {J : Hp} : ∀ {vs : List V} {ds : List PyData}, ShAll K J vs ds → ∀ {us : List Value}, Vals vs us → PySem.W.EachIs (fun u d => ∃ v, RelV v u ∧ Sh K J v d) us ds
  | _, _, .nil, _, .nil => .nil
  | _, _, .cons h g, _, .cons r t => .cons ⟨_, r, h⟩ (shsEach g t)
theorem eachShs {K : PySem.W.Frag} {J : Hp} : ∀ {us : List Value} {ds : List PyData}, PySem.W.EachIs (fun u d => ∃ v, RelV v u ∧ Sh K J v d) us ds → ∃ vs, Vals vs us ∧ ShAll K J vs ds
  | _, _, .nil => ⟨[], .nil, .nil⟩
  | _, _, .cons ⟨v, r, h⟩ t => by
    obtain ⟨vs, a, b⟩ := eachShs t
    exact ⟨v :: vs, .cons r a, .cons h b⟩
theorem key1_some {d : PyData} (h : key1 d = true) : ∃ k, d = keyDK k := by
  cases d <;> simp [key1] at h
  · exact ⟨.inl _, rfl⟩
  · exact ⟨.inr _, rfl⟩
theorem keys_some : ∀ {ds : List PyData}, ds.all key1 = true → ∃ ks : List Key, ds = ks.map keyDK
  | [], _ => ⟨[], rfl⟩
  | d :: ds, h => by
    simp only [List.all_cons, Bool.and_eq_true] at h
    obtain ⟨k, rfl⟩ := key1_some h.1
    obtain ⟨ks, rfl⟩ := keys_some h.2
    exact ⟨k :: ks, rfl⟩
theorem key1eq_dk (a b : Key) : key1eq (keyDK a) (keyDK b) = decide (a = b) := by
  cases a <;> cases b <;> simp [key1eq, keyDK]
theorem keysEq_dk : ∀ (a b : List Key), keysEq (a.map keyDK) (b.map keyDK) = decide (a = b)
  | [], [] => rfl
  | [], _ :: _ => by simp [keysEq]
  | _ :: _, [] => by simp [keysEq]
  | a :: as, b :: bs => by
    simp only [List.map_cons, keysEq, key1eq_dk, keysEq_dk, List.cons.injEq, Bool.decide_and]
theorem keq_dk (a b : Key) : keq (keyDK a) (keyDK b) = decide (a = b) := by
  cases a <;> cases b <;> simp [keq, key1eq, keyDK]
theorem keq_dt (a b : List Key) : keq (.tuple (a.map keyDK)) (.tuple (b.map keyDK)) = decide (a = b) := by
  simp only [keq, keysEq_dk]
def KeyV (H : Hp) (v : V) : Bool → PyData → Prop
  | false, d => ∃ k, v = kV k ∧ d = keyDK k
  | true, d => ∃ (b : Addr) (k : List Key), v = .ref b ∧ H b = some (.tup (k.map kV)) ∧ d = .tuple (k.map keyDK)
theorem sh_key {K : PySem.W.Frag} {J : Hp} {v : V} {k : Key} (h : Sh K J v (keyDK k)) : v = kV k := by
  cases k with
  | inl i => cases h; rfl
  | inr x => cases h; rfl
theorem shs_keys {K : PySem.W.Frag} {J : Hp} : ∀ {vs : List V} {ks : List Key}, ShAll K J vs (ks.map keyDK) → vs = ks.map kV
  | [], [], _ => rfl
  | _, [], h => by cases h; rfl
  | [], _ :: _, h => nomatch h
  | v :: vs, k :: ks, h => by
    cases h with
    | cons a b => rw [sh_key a, shs_keys b]; rfl
theorem Vw.key {K : PySem.W.Frag} {H J : Hp} {v : V} {t : Bool} {d : PyData} (sm : Same J H) (h : Vw K H J v d) (hk : isKey t d = true) : KeyV H v t d := by
  cases t with
  | false =>
    have hk : key1 d = true := hk
    obtain ⟨k, rfl⟩ := key1_some hk
    refine ⟨k, ?_, rfl⟩
    rcases h with h | ⟨_, _, _, _, e, _⟩ | ⟨_, _, _, _, _, e, _⟩
    · exact sh_key h
    · cases k <;> cases e
    · cases k <;> cases e
  | true =>
    cases d <;> simp only [isKey, Bool.false_eq_true] at hk
    obtain ⟨ks, rfl⟩ := keys_some hk
    obtain ⟨a, xs, rfl, _, ha, hx⟩ := h.tuple sm
    refine ⟨a, ks, rfl, ?_, rfl⟩
    rw [ha, shs_keys hx]
theorem lookD_dk {K : PySem.W.Frag} {J : Hp} {kf : α → PyData} [DecidableEq α] (hk : ∀ a b, keq (kf a) (kf b) = decide (a = b)) : ∀ {ks : List (α × V)} {kvs : List (PyData × PyData)} (k : α), kvs.map (·.1) = ks.map (fun k => kf k.1) → ShAll K J (ks.map (·.2)) (kvs.map (·.2)) →
    match valV ks k, lookD (kf k) kvs with | some v, some d => Sh K J v d | none, none => True | _, _ => False
  | [], [], k, _, _ => by simp [valV, lookD]
  | [], _ :: _, k, e, _ => by simp at e
  | _ :: _, [], k, e, _ => by simp at e
  | (a, v) :: ks, (b, d) :: kvs, k, e, h => by
    simp only [List.map_cons, List.cons.injEq] at e
    obtain ⟨rfl, e⟩ := e
    cases h with
    | cons h1 h2 =>
      by_cases z : a = k
      · rw [valV_pos z]
        simp only [lookD, hk, z, decide_true, if_true]
        exact h1
      · rw [valV_neg z]
        simp only [lookD, hk, z, decide_false, Bool.false_eq_true, if_false]
        exact lookD_dk hk k e h2
theorem DRep.get {K : PySem.W.Frag} {H J : Hp} {a : Addr} {ho : HO} {t : Bool} {kvs : List (PyData × PyData)} {v : V} {d : PyData} (h : DRep K J ho t kvs) (sm : Same J H) (ha : Rd H a ho) (hk : KeyV H v t d) :
    ∃ o, DGet H a v o ∧ match o, lookD d kvs with | some v, some d => Sh K J v d | none, none => True | _, _ => False := by
  cases t with
  | false =>
    obtain ⟨ks, rfl, h1, h2⟩ := h
    obtain ⟨k, rfl, rfl⟩ := hk
    exact ⟨_, .inl ⟨ks, k, ha, rfl, rfl⟩, lookD_dk keq_dk k h1 h2⟩
  | true =>
    obtain ⟨ks, rfl, h1, h2⟩ := h
    obtain ⟨b, k, rfl, hb, rfl⟩ := hk
    exact ⟨_, .inr ⟨ks, k, b, ha, rfl, hb, rfl⟩, lookD_dk (kf := fun (k : List Key) => PyData.tuple (k.map keyDK)) keq_dt k h1 h2⟩
theorem isSome_of {K : PySem.W.Frag} {J : Hp} {o : Option V} {p : Option PyData} (h : match o, p with | some v, some d => Sh K J v d | none, none => True | _, _ => False) : o.isSome = p.isSome := by
  cases o <;> cases p <;> simp at h ⊢
theorem pSorted_some {ds : List PyData} {t : Slot} (h : pSorted ds = some t) : (∃ es, (ds = [.list es] ∨ ds = [.tuple es]) ∧ sortB es = true ∧ t = .lst (es.mergeSort leD)) ∨ ∃ b kvs, ds = [.dict ((.bool b, .none) :: kvs)] ∧ sortB (kvs.map (·.1)) = true ∧ t = .lst ((kvs.map (·.1)).mergeSort leD) := by
  unfold pSorted at h
  split at h
  · split at h
    · cases h; exact .inl ⟨_, .inl rfl, by assumption, rfl⟩
    · cases h
  · split at h
    · cases h; exact .inl ⟨_, .inr rfl, by assumption, rfl⟩
    · cases h
  · split at h
    · cases h; exact .inr ⟨_, _, rfl, by assumption, rfl⟩
    · cases h
  · cases h
section
variable {X : Cx}
theorem share_many {K : PySem.W.Frag} {H : Hp} : ∀ {J : Hp} {us : List Value} {ds : List PyData}, Same J H → PySem.W.EachIs (fun u d => (∃ v, RelV v u ∧ Sh K J v d) ∨ ∃ (q : Addr) (k : List Key), u = .ref q ∧ d = .tuple (k.map keyDK) ∧ H q = some (.tup (k.map kV))) us ds →
    ∃ J' vs, Same J' H ∧ Step (fun _ => False) H J (fun _ => False) H J' ∧ Vals vs us ∧ ShAll K J' vs ds
  | J, [], _, sm, .nil => ⟨J, [], sm, Step.refl, .nil, .nil⟩
  | J, u :: us, d :: ds, sm, .cons h t => by
    have keys : ∀ (k : List Key), ShAll K J (k.map kV) (k.map keyDK) := fun k => by
      induction k with
      | nil => exact .nil
      | cons a k ih => cases a <;> exact .cons (by first | exact .int _ | exact .str _) ih
    obtain ⟨J1, v, sm1, st1, rv, hv⟩ : ∃ J1 v, Same J1 H ∧ Step (fun _ => False) H J (fun _ => False) H J1 ∧ RelV v u ∧ Sh K J1 v d := by
      rcases h with ⟨v, r, hs⟩ | ⟨q, k, rfl, rfl, hq⟩
      · exact ⟨J, v, sm, Step.refl, r, hs⟩
      · have js : Same J (upd J q (.tup (k.map kV))) := fun b u e => by
          by_cases z : b = q
          · rw [z, upd_same]; rw [z] at e; rw [← hq]; exact sm _ _ e
          · rw [upd_ne z]; exact e
        refine ⟨upd J q (.tup (k.map kV)), .ref q, fun b u e => ?_, ⟨js, fun _ _ h _ => h, fun _ h => h.elim, fun b e => ?_⟩, rfl, .tup upd_same (shsMono js (keys k))⟩
        · by_cases z : b = q
          · rw [z, upd_same] at e; rw [z, ← e]; exact hq
          · rw [upd_ne z] at e; exact sm _ _ e
        · by_cases z : b = q
          · rw [z]; exact .inr (.inr (.inr ⟨_, hq⟩))
          · rw [upd_ne z] at e; exact .inl e
    have t' : PySem.W.EachIs (fun u d => (∃ v, RelV v u ∧ Sh K J1 v d) ∨ ∃ (q : Addr) (k : List Key), u = .ref q ∧ d = .tuple (k.map keyDK) ∧ H q = some (.tup (k.map kV))) us ds := t.mono fun u d h => h.imp (fun ⟨v, r, hs⟩ => ⟨v, r, shMono st1.js hs⟩) id
    obtain ⟨J2, vs, sm2, st2, rvs, hvs⟩ := share_many sm1 t'
    exact ⟨J2, v :: vs, sm2, st1.trans st2, .cons rv rvs, .cons (shMono st2.js hv) hvs⟩
theorem PrimQ.later {K : PySem.W.Frag} {H J J1 : Hp} {s : Slot} {Q : VK} (q : PrimQ K H J s Q) (st : Step (fun _ => False) H J (fun _ => False) H J1) : PrimQ K H J1 s Q := fun v H' J' g rp n t sm => q v H' J' g rp n (st.trans t) sm
theorem eachIs_get {α β : Type} {R : α → β → Prop} : ∀ {us : List α} {ds : List β}, us.length = ds.length → (∀ (j : Nat) (u : α) (d : β), us[j]? = some u → ds[j]? = some d → R u d) → PySem.W.EachIs R us ds
  | [], [], _, _ => .nil
  | [], _ :: _, h, _ => by simp at h
  | _ :: _, [], h, _ => by simp at h
  | u :: us, d :: ds, h, k => .cons (k 0 u d rfl rfl) (eachIs_get (by simpa using h) fun j a b h1 h2 => k (j + 1) a b (by simpa using h1) (by simpa using h2))
theorem pairedGet {α β : Type} {G : α → β → Prop} : ∀ {l₁ : List α} {l₂ : List β}, Paired G l₁ l₂ → ∀ {i : Nat} {a : α}, l₁[i]? = some a → ∃ b, l₂[i]? = some b ∧ G a b
  | _, _, .nil, _, _, e => by simp at e
  | _, _, .cons h _, 0, _, e => by simp at e; subst e; exact ⟨_, rfl, h⟩
  | _, _, .cons _ t, i + 1, _, e => by
    obtain ⟨b, h1, h2⟩ := pairedGet t (by simpa using e)
    exact ⟨b, by simpa using h1, h2⟩
theorem keysSh {K : PySem.W.Frag} {J : Hp} : ∀ (k : List Key), ShAll K J (k.map kV) (k.map keyDK)
  | [] => .nil
  | .inl _ :: k => .cons (.int _) (keysSh k)
  | .inr _ :: k => .cons (.str _) (keysSh k)
theorem sorted_keys (hc : X.calm = true) (hu : X.A.units + 64 < cLine) {pins : List (Addr × Obj)} {s : Shared} {sg : St} {H J : Hp} {vs : List V} {us : List Value} {Q : VK} {b : Bool} {kvs : List (PyData × PyData)} (I : Inv X pins sg H s) (rv : Vals vs us) (sm : Same J H) (vw : Vws X.K H J vs [.dict ((.bool b, .none) :: kvs)])
    (hz : sortB (kvs.map (·.1)) = true) (q : PrimQ X.K H J (.lst ((kvs.map (·.1)).mergeSort leD)) Q) : wpAny (model X.prog X.w) X.A (call (.builtin "sorted") us) (EP X pins sg Q) X.xe s := by
  obtain ⟨v, rfl, a⟩ := vw.one
  obtain ⟨l, ho, rfl, ha, ga⟩ := a.dict sm
  obtain ⟨u, rfl, rx⟩ := vals1 rv
  obtain rfl : u = Value.ref l := rx
  rw [sortB, Bool.and_eq_true, Bool.and_eq_true] at hz
  obtain ⟨⟨h1, h2⟩, h3⟩ := hz
  simp only [alikeB, List.all_eq_true] at h1
  simp only [Bool.and_eq_true, List.all_eq_true] at h3
  generalize hes : kvs.map (·.1) = es at *
  have hal : PySem.W.AllAlike es := fun d hd d' hd' => h1 d hd d' hd'
  have hk : Sortable2 es := sortable_of h2
  have hdep : ∀ b, b ∈ es → X.A.units + 2 + (id b : PyData).depth < cLine := fun b hb => by
    have := of_decide_eq_true (h3 b hb).2
    show X.A.units + 2 + b.depth < cLine
    omega
  have fin : ∀ {OK : Heap → Prop} {P : Nat → Value → Prop}, PySem.W.KdlSrc X.prog X.w "dict" l l es.length P OK → OK s.heap → es.length ≤ sizeLine →
      (∀ i v d, P i v → es[i]? = some d → (∃ u, RelV u v ∧ Sh X.K J u d) ∨ ∃ (q : Addr) (k : List Key), v = .ref q ∧ d = .tuple (k.map keyDK) ∧ H q = some (.tup (k.map kV))) → wpAny (model X.prog X.w) X.A (call (.builtin "sorted") [.ref l]) (EP X pins sg Q) X.xe s := by
    intro OK P src ok hle hP
    have each : ∀ {vs : List Value}, (vs.length = es.length ∧ ∀ j v, vs[j]? = some v → P j v) → PySem.W.EachIs (fun u d => (∃ v, RelV v u ∧ Sh X.K J v d) ∨ ∃ (q : Addr) (k : List Key), u = .ref q ∧ d = .tuple (k.map keyDK) ∧ H q = some (.tup (k.map kV))) vs es := by
      intro vs ⟨hl, hv⟩
      refine eachIs_get hl fun j u d hu hd => hP j u d (hv j u hu) hd
    refine sorted_col (enc := id) (bs := es) (R := fun u d => (∃ v, RelV v u ∧ Sh X.K J v d) ∨ ∃ (q : Addr) (k : List Key), u = .ref q ∧ d = .tuple (k.map keyDK) ∧ H q = some (.tup (k.map kV)))
      (P := fun vs h' => (vs.length = es.length ∧ ∀ j v, vs[j]? = some v → P j v) ∧ ∀ b o, s.heap.get? b = some o → h'.get? b = some o)
      (fun R' hR => PySem.W.kdu_collect src (I.ok.hd hc) ok hle fun h' tk acc kp it => hR h' tk acc.toList kp ⟨⟨by rw [Array.length_toList]; exact it.1, fun j v e => it.2 j v (by rw [← Array.getElem?_toList]; exact e)⟩, kp⟩)
      (fun vs h' hp => each hp.1) ?_ (by rw [List.map_id]; exact hal) (by rw [List.map_id]; exact hk) hle hdep ?_
    · intro vs h' hp
      have e2 := PySem.W.each_mem (each hp.1)
      refine e2.mono fun u d ⟨hh, hd⟩ => ?_
      have hl0 := (h3 d hd).1
      have I' : ∃ as, Reads s.heap u d as := by
        rcases hh with ⟨v, r, hs⟩ | ⟨q, k, rfl, rfl, hq⟩
        · exact Dp.reads I d v u (shDp hl0 (shMono sm hs)) r
        · exact Dp.reads I _ (.ref q) _ (.tup (.of hq) (shsDp (by simpa [PyData.canLay0] using hl0) (keysSh k))) rfl
      obtain ⟨as, r⟩ := I'
      exact ⟨as, PyProof.Rows.Reads.keeps hp.2 r⟩
    · intro h' h2 tk vs out c kp hp k2 hob hol heo
      obtain ⟨J', ws, sm', st', r3, s3⟩ := share_many sm heo
      have I1 : Inv X pins sg H { s with heap := h', toks := tk } := I.kept kp
      have hfr : H h'.objs.size = none := I1.hok.fresh (Nat.le_refl _)
      have hlen : ws.length ≤ sizeLine := by rw [r3.length, hol]; exact hle
      refine ⟨.ref _, upd H h'.objs.size (.lst ws), I1.laid (t' := tk) k2 (Nat.le_refl _) ⟨hlen, out, _, r3, hob⟩, rfl, (q.later st').lst sm' hfr ?_⟩
      exact s3
  cases b with
  | false =>
    obtain ⟨ks, rfl, e1, e2⟩ := ga
    obtain ⟨z, hs, vs', kv, dd⟩ := dk_rd I.hok ha
    obtain ⟨o, ents, ep, dat⟩ : ∃ (o : Obj) (ents : Array DictEntry) (ep : Nat), s.heap.DictAt (mixKind X.prog X.w) l vs' ep := by
      obtain ⟨o, es0, ep, g1, g2, g3, g4⟩ := dd
      exact ⟨o, es0, ep, ⟨o, es0, g1, g2, g3, g4⟩⟩
    have l2 : ks.length = vs'.length := Paired.length kv
    have l3 : es.length = ks.length := by rw [← hes, e1, List.length_map]
    have src := PySem.W.kdl_dict (prog := X.prog) (w := X.w) (knd := mixKind X.prog X.w) (kvs := vs') (ep := ep) hs
    rw [← l2, ← l3] at src
    refine fin src dat (by omega) fun i v d hP hd => .inl ?_
    obtain ⟨k, x, hk1, hk2⟩ := hP
    rw [← hes, e1, List.getElem?_map] at hd
    obtain ⟨p, hp, rfl⟩ := Option.map_eq_some_iff.mp hd
    obtain ⟨y, hy, hk3⟩ := pairedGet kv hp
    rw [hk1] at hy
    cases hy
    refine ⟨kV k, relV_key hk2, ?_⟩
    rw [show p.1 = k from hk3.1]
    cases k <;> first | exact .int _ | exact .str _
  | true =>
    obtain ⟨ks, rfl, e1, e2⟩ := ga
    obtain ⟨z, hs, xs, rel, o, ents, ep, g1, g2, g3, g4, g5⟩ := dt_rd I.hok ha
    have l1 : ents.size = xs.length := size_of_entries g4
    have l2 : ks.length = xs.length := Paired.length rel
    have l3 : es.length = ks.length := by rw [← hes, e1, List.length_map]
    have src := kdl_raw (prog := X.prog) (w := X.w) (d := l) hs g2 g3
    rw [l1, ← l2, ← l3] at src
    refine fin src g1 (by omega) fun i v d hP hd => .inr ?_
    obtain ⟨en, hen, rfl⟩ := hP
    rw [← hes, e1, List.getElem?_map] at hd
    obtain ⟨p, hp, rfl⟩ := Option.map_eq_some_iff.mp hd
    obtain ⟨y, hy, r1, r2, r3⟩ := pairedGet rel hp
    have qe := entry_at g4 i
    rw [hen, hy] at qe
    cases qe
    exact ⟨y.2.1, p.1, rfl, rfl, r2⟩
theorem pm_sorted (hc : X.calm = true) (hu : X.A.units + 64 < cLine) : CallR X (.builtin "sorted") (rPrim X.K .sorted) := by
  intro pins s sg H vs us Q I rv h
  obtain ⟨J, ds, t, sm, vw, hp, q⟩ := h
  rcases pSorted_some hp with ⟨es, hds, hz, rfl⟩ | ⟨b, kvs, rfl, hz, rfl⟩
  case inr => exact sorted_keys hc hu I rv sm vw hz q
  rw [sortB, Bool.and_eq_true, Bool.and_eq_true] at hz
  obtain ⟨⟨h1, h2⟩, h3⟩ := hz
  simp only [alikeB, List.all_eq_true] at h1
  simp only [Bool.and_eq_true, List.all_eq_true] at h3
  have hal : PySem.W.AllAlike es := fun d hd d' hd' => h1 d hd d' hd'
  have hk : Sortable2 es := sortable_of h2
  have fin : ∀ {xs : List V} {its : List Value}, ShAll X.K J xs es → Vals xs its → xs.length ≤ sizeLine → PySem.W.EachIs (fun u d => ∃ v, RelV v u ∧ Sh X.K J v d) its es ∧ PySem.W.EachIs (fun v b => ∃ as, Reads s.heap v (id b) as) its es ∧
      ∀ out : List Value, out.length = es.length → PySem.W.EachIs (fun u d => ∃ v, RelV v u ∧ Sh X.K J v d) out (es.mergeSort (PySem.W.dataLe false id)) → EP X pins sg Q (.ref (s.heap.objs.size + 1)) { s with heap := PyProof.Rows.sortedAll s.heap its (List.toArray out) } := by
    intro xs its ga rits hl
    have e1 := shsEach ga rits
    refine ⟨e1, ?_, fun out ho eout => ?_⟩
    · have e2 := PySem.W.each_mem e1
      exact e2.mono fun u d ⟨⟨v, r, hs⟩, hd⟩ => Dp.reads I d v u (shDp (h3 d hd).1 (shMono sm hs)) r
    · obtain ⟨ws, r3, s3⟩ := eachShs eout
      obtain ⟨c, hc⟩ := PyProof.Rows.sortedAll_at s.heap its out.toArray
      have hfr : H (s.heap.objs.size + 1) = none := I.hok.fresh (Nat.le_succ _)
      have hlen : ws.length ≤ sizeLine := by rw [r3.length, ho, ← shsLen ga]; exact hl
      refine ⟨.ref _, upd H (s.heap.objs.size + 1) (.lst ws), I.laid (t' := s.toks) (fun _ _ => PyProof.Rows.sortedAll_old) (Nat.le_succ _) ⟨hlen, out, _, r3, hc⟩, rfl, q.lst sm hfr ?_⟩
      exact s3
  have hdep : ∀ b, b ∈ es → X.A.units + 2 + (id b : PyData).depth < cLine := fun b hb => by
    have := of_decide_eq_true (h3 b hb).2
    show X.A.units + 2 + b.depth < cLine
    omega
  rcases hds with rfl | rfl
  · obtain ⟨v, rfl, a⟩ := vw.one
    obtain ⟨l, xs, rfl, ha, ga⟩ := a.list sm
    cases rv with
    | cons r1 r2 =>
      cases r2
      cases r1
      obtain ⟨hl, its, n, rits, eo⟩ := (show ObjOk X.prog X.w H s.heap l (.lst xs) from I.hok l _ ha)
      obtain ⟨e1, er, k⟩ := fin ga rits hl
      exact sorted_lst (enc := id) (bs := es) ⟨_, eo, rfl, n, rfl⟩ e1 er (by rw [List.map_id]; exact hal) (by rw [List.map_id]; exact hk) (by rw [← shsLen ga]; exact hl) hdep k
  · obtain ⟨v, rfl, a⟩ := vw.one
    obtain ⟨l, xs, rfl, _, ha, ga⟩ := a.tuple sm
    cases rv with
    | cons r1 r2 =>
      cases r2
      cases r1
      obtain ⟨hl, its, rits, eo⟩ := (show ObjOk X.prog X.w H s.heap l (.tup xs) from I.hok l _ ha)
      obtain ⟨e1, er, k⟩ := fin ga rits hl
      exact sorted_tup (enc := id) (bs := es) eo e1 er (by rw [List.map_id]; exact hal) (by rw [List.map_id]; exact hk) (by rw [← shsLen ga]; exact hl) hdep k
def tyN : PyData → String
  | .none => "NoneType" | .bool _ => "bool" | .int _ => "int" | .str _ => "str" | .list _ => "list" | .tuple _ => "tuple" | .dict _ => "dict"
theorem tyD_kit {d : PyData} {t : String} {b : Bool} (h : tyD d t = some b) : kitB (tyN d) t = some b := by
  unfold tyD at h
  split at h <;> (repeat' (split at h)) <;> (try (cases h; done)) <;> (rename_i q; cases h) <;> simp only [tyN] <;> first | (rcases q with rfl | rfl | rfl | rfl | rfl | rfl <;> decide +kernel) | (rcases q with rfl | rfl | rfl | rfl | rfl <;> decide +kernel) | (rcases q with rfl | rfl | rfl | rfl <;> decide +kernel) | (rcases q with rfl | rfl | rfl <;> decide +kernel) | (rcases q with rfl | rfl <;> decide +kernel) | (subst q; decide +kernel)
def FrzD (H : Hp) (v : V) (t : Value) : Prop := ∃ a o, v = .ref a ∧ t = .type "dict" ∧ ((∃ ks, H a = some (.frz o (.dK ks))) ∨ ∃ ks, H a = some (.frz o (.dT ks)))
theorem Vw.ty {K : PySem.W.Frag} {H J : Hp} {v : V} {d : PyData} {t : String} {b : Bool} (sm : Same J H) (hd : tyD d t = some b) (h : Vw K H J v d) : TyX K H v (.type (tyN d)) ∨ FrzD H v (.type (tyN d)) := by
  rcases h with h | ⟨a, xs, ds, rfl, rfl, h1, h2⟩ | ⟨a, ho, t', kvs, rfl, rfl, h1, h2⟩
  · cases h with
    | non => exact .inl (.base .non)
    | bl b => exact .inl (.base (.bl b))
    | int i => exact .inl (.base (.int i))
    | str x => exact .inl (.base (.str x))
    | lst h g => exact .inl (.base (.lst (sm _ _ h)))
    | tup h g => exact .inl (.base (.tup (sm _ _ h)))
    | scr h => cases hd
    | dK h _ _ => exact .inr ⟨_, _, rfl, rfl, .inl ⟨_, sm _ _ h⟩⟩
    | dT h _ _ => exact .inr ⟨_, _, rfl, rfl, .inr ⟨_, sm _ _ h⟩⟩
    | exc0 _ _ => cases hd
    | exc1 _ _ _ _ => cases hd
    | fnv _ _ => cases hd
  · exact .inl (.base (.lst h1))
  · cases t' with
    | false =>
      obtain ⟨ks, rfl, _⟩ := h2
      rcases h1 with h1 | ⟨o, h1⟩
      · exact .inl (.base (.dK h1))
      · exact .inr ⟨_, o, rfl, rfl, .inl ⟨_, h1⟩⟩
    | true =>
      obtain ⟨ks, rfl, _⟩ := h2
      rcases h1 with h1 | ⟨o, h1⟩
      · exact .inl (.base (.dT h1))
      · exact .inr ⟨_, o, rfl, rfl, .inr ⟨_, h1⟩⟩
theorem FrzD.kit {pins : List (Addr × Obj)} {sg : St} {H : Hp} {s : Shared} {v : V} {u t : Value} (I : Inv X pins sg H s) (rx : RelV v u) (h : FrzD H v t) : ∃ P : Heap → Prop, PySem.W.KitX X.K u t P ∧ P s.heap ∧ u ≠ .builtin "__main__.__loader__#opaque" := by
  obtain ⟨a, o, rfl, rfl, ⟨ks, e⟩ | ⟨ks, e⟩⟩ := h
  · cases (show u = Value.ref a from rx)
    obtain ⟨_, _, _, vs, _, o, es, ep, h1, h2, _⟩ := (show ObjOk X.prog X.w H s.heap a (.frz o (.dK ks)) from I.hok a _ e)
    exact ⟨_, PySem.W.kitx_dict, ⟨o, h1, h2.1⟩, fun z => nomatch z⟩
  · cases (show u = Value.ref a from rx)
    obtain ⟨_, _, _, vs, _, o, es, ep, h1, h2, _⟩ := (show ObjOk X.prog X.w H s.heap a (.frz o (.dT ks)) from I.hok a _ e)
    exact ⟨_, PySem.W.kitx_dict, ⟨o, h1, h2.1⟩, fun z => nomatch z⟩
def rIsiP (K : PySem.W.Frag) (t : String) : List V → Hp → VK → Prop := fun vs H Q => ∃ x, vs = [x, .ty t] ∧ rPrim K (.isi t) [x] H Q
theorem pm_isi {t : String} : CallR X (.builtin "isinstance") (rIsiP X.K t) := by
  intro pins s sg H vs us Q I rv h
  obtain ⟨x, rfl, J, ds, tt, sm, vw, hp, q⟩ := h
  have hp : pIsi t ds = some tt := hp
  unfold pIsi at hp
  split at hp
  · obtain ⟨b, hb, rfl⟩ := Option.map_eq_some_iff.mp hp
    rcases vw.one'.ty sm hb with ty | ty
    · exact call_isi pins s sg H _ us Q I rv ⟨x, .ty t, _, _, b, rfl, .ty t, ty, kit_ty (tyD_kit hb), q.val sm (.bl b)⟩
    · obtain ⟨u1, u2, rfl, r1, r2⟩ := vals2 rv
      have e2 := (ClsV.ty t).eq r2
      subst e2
      obtain ⟨P, Z, p, hx⟩ := ty.kit I r1
      exact PySem.W.kia_one Z I.kIn p (kit_ty (tyD_kit hb)) hx fun tk => ⟨.bl b, H, I.tok tk, rfl, q.val sm (.bl b)⟩
  · cases hp
theorem pm_add : OpR X (binaryOp .Add) (rPrim2 X.K .add) := by
  intro pins s sg H x y v u Q I rx ry h
  obtain ⟨J, ds, t, sm, vw, hp, q⟩ := h
  have hp : pAdd ds = some t := hp
  unfold pAdd at hp
  split at hp
  · cases hp
    obtain ⟨a, b⟩ := vw.two'
    exact op_add pins s sg H x y v u Q I rx ry ⟨_, _, a.int, b.int, q.val sm (.int _)⟩
  · obtain ⟨a, b⟩ := vw.two'
    obtain ⟨l, xs, rfl, ha, ga⟩ := a.list sm
    obtain ⟨m, ys, rfl, hb, gb⟩ := b.list sm
    split at hp
    · rename_i hz
      cases hp
      refine op_cat pins s sg H _ _ v u Q I rx ry ⟨l, m, xs, ys, rfl, rfl, ha, hb, ?_, fun p hp => q.lst sm hp (shsApp ga gb)⟩
      rw [shsLen ga, shsLen gb]
      exact of_decide_eq_true hz
    · cases hp
  · obtain ⟨a, b⟩ := vw.two'
    obtain ⟨l, xs, rfl, ja, ha, ga⟩ := a.tuple sm
    obtain ⟨m, ys, rfl, jb, hb, gb⟩ := b.tuple sm
    split at hp
    · rename_i a' b' hz
      cases hp
      refine op_catA pins s sg H _ _ v u Q I rx ry ⟨l, m, xs, ys, rfl, rfl, .of ha, .of hb, ?_, fun e => ?_, fun _ e => ?_, fun _ _ p hp => q.tup sm hp (shsApp ga gb)⟩
      · rw [shsLen ga, shsLen gb]
        exact of_decide_eq_true hz
      · subst e
        cases ga
        exact q.val sm (.tup jb gb)
      · subst e
        cases gb
        rw [List.append_nil] at q
        exact q.val sm (.tup ja ga)
    · cases hp
  · obtain ⟨a, b⟩ := vw.two'
    split at hp
    · rename_i hz
      cases hp
      exact op_add_str pins s sg H x y v u Q I rx ry ⟨_, _, a.str, b.str, by rw [sizeLine_eq]; exact of_decide_eq_true hz, q.val sm (.str _)⟩
    · cases hp
  · cases hp
theorem pm_sub : OpR X (binaryOp .Sub) (rPrim2 X.K .sub) := by
  intro pins s sg H x y v u Q I rx ry h
  obtain ⟨J, ds, t, sm, vw, hp, q⟩ := h
  have hp : pSub ds = some t := hp
  unfold pSub at hp
  split at hp
  · cases hp
    obtain ⟨a, b⟩ := vw.two'
    exact op_sub pins s sg H x y v u Q I rx ry ⟨_, _, a.int, b.int, q.val sm (.int _)⟩
  · cases hp
theorem pm_mul : OpR X (binaryOp .Mult) (rPrim2 X.K .mul) := by
  intro pins s sg H x y v u Q I rx ry h
  obtain ⟨J, ds, t, sm, vw, hp, q⟩ := h
  have hp : pMul ds = some t := hp
  unfold pMul at hp
  split at hp
  · obtain ⟨a, b⟩ := vw.two'
    obtain ⟨l, xs, rfl, ha, ga⟩ := a.list sm
    split at hp
    · rename_i hz
      cases hp
      simp only [Bool.and_eq_true, decide_eq_true_eq] at hz
      obtain ⟨⟨hz0, hz1⟩, hz2⟩ := hz
      exact op_rep pins s sg H _ _ v u Q I rx ry ⟨l, _, xs, rfl, b.int, ha, by omega, by omega, by rw [shsLen ga, sizeLine_eq]; exact of_decide_eq_true hz2, fun p hp => q.lst sm hp (shsRep ga _)⟩
    · cases hp
  · obtain ⟨a, b⟩ := vw.two'
    split at hp
    · rename_i hz
      cases hp
      refine op_mul pins s sg H x y v u Q I rx ry ⟨_, _, a.int, b.int, ?_, q.val sm (.int _)⟩
      simp only [Bool.or_eq_true, decide_eq_true_eq] at hz
      unfold CMul
      omega
    · cases hp
  · obtain ⟨a, b⟩ := vw.two'
    obtain ⟨l, xs, rfl, ja, ha, ga⟩ := a.tuple sm
    split at hp
    · rename_i hz
      cases hp
      simp only [Bool.and_eq_true, decide_eq_true_eq, Bool.not_eq_true'] at hz
      obtain ⟨hz0, hz1, hz2, hz3⟩ := hz
      refine op_repA pins s sg H _ _ v u Q I rx ry ⟨l, _, xs, rfl, b.int, .of ha, fun e => ?_, hz1, hz2, by rw [shsLen ga]; exact hz3, fun e => ?_, fun _ p hp => q.tup sm hp (shsRep ga _)⟩
      · subst e
        cases ga
        cases hz0
      · subst e
        have e1 : ∀ l : List PyData, (List.replicate (1 : Int).toNat l).flatten = l := fun l => by
          show l ++ [] = l
          rw [List.append_nil]
        rw [e1] at q
        exact q.val sm (.tup ja ga)
    · cases hp
  · cases hp
theorem pm_fdiv : OpR X (binaryOp .FloorDiv) (rPrim2 X.K .fdiv) := by
  intro pins s sg H x y v u Q I rx ry h
  obtain ⟨J, ds, t, sm, vw, hp, q⟩ := h
  have hp : pFdiv ds = some t := hp
  unfold pFdiv at hp
  split at hp
  · obtain ⟨a, b⟩ := vw.two'
    split at hp
    · rename_i hz
      cases hp
      refine op_fdivW pins s sg H x y v u Q I rx ry ⟨_, _, a.int, b.int, ?_, q.val sm (.int _)⟩
      simp only [Bool.and_eq_true, decide_eq_true_eq] at hz
      exact wide_div (b := 256) hz.1 (by omega) (by decide) (by decide)
    · cases hp
  · cases hp
theorem pm_mod : OpR X (binaryOp .Mod) (rPrim2 X.K .mod) := by
  intro pins s sg H x y v u Q I rx ry h
  obtain ⟨J, ds, t, sm, vw, hp, q⟩ := h
  have hp : pMod ds = some t := hp
  unfold pMod at hp
  split at hp
  · obtain ⟨a, b⟩ := vw.two'
    split at hp
    · rename_i hz
      cases hp
      exact op_mod pins s sg H x y v u Q I rx ry ⟨_, _, a.int, b.int, of_decide_eq_true hz, q.val sm (.int _)⟩
    · cases hp
  · cases hp
theorem pm_shl : OpR X (binaryOp .LShift) (rPrim2 X.K .shl) := by
  intro pins s sg H x y v u Q I rx ry h
  obtain ⟨J, ds, t, sm, vw, hp, q⟩ := h
  have hp : pShl ds = some t := hp
  unfold pShl at hp
  split at hp
  · obtain ⟨a, b⟩ := vw.two'
    split at hp
    · rename_i hz
      cases hp
      refine op_shl pins s sg H x y v u Q I rx ry ⟨_, _, a.int, b.int, ?_, q.val sm (.int _)⟩
      simp only [Bool.and_eq_true, decide_eq_true_eq] at hz
      exact ⟨hz.1.1, hz.1.2, hz.2⟩
    · cases hp
  · cases hp
theorem pm_shr : OpR X (binaryOp .RShift) (rPrim2 X.K .shr) := by
  intro pins s sg H x y v u Q I rx ry h
  obtain ⟨J, ds, t, sm, vw, hp, q⟩ := h
  have hp : pShr ds = some t := hp
  unfold pShr at hp
  split at hp
  · obtain ⟨a, b⟩ := vw.two'
    split at hp
    · rename_i hz
      cases hp
      exact op_shr pins s sg H x y v u Q I rx ry ⟨_, _, a.int, b.int, of_decide_eq_true hz, q.val sm (.int _)⟩
    · cases hp
  · cases hp
theorem pm_bor : OpR X (binaryOp .BitOr) (rPrim2 X.K .bor) := by
  intro pins s sg H x y v u Q I rx ry h
  obtain ⟨J, ds, t, sm, vw, hp, q⟩ := h
  have hp : pBor ds = some t := hp
  unfold pBor at hp
  split at hp
  · cases hp
    obtain ⟨a, b⟩ := vw.two'
    exact op_or pins s sg H x y v u Q I rx ry ⟨_, _, a.int, b.int, q.val sm (.int _)⟩
  · cases hp
theorem pm_band : OpR X (binaryOp .BitAnd) (rPrim2 X.K .band) := by
  intro pins s sg H x y v u Q I rx ry h
  obtain ⟨J, ds, t, sm, vw, hp, q⟩ := h
  have hp : pBand ds = some t := hp
  unfold pBand at hp
  split at hp
  · cases hp
    obtain ⟨a, b⟩ := vw.two'
    exact op_and pins s sg H x y v u Q I rx ry ⟨_, _, a.int, b.int, q.val sm (.int _)⟩
  · cases hp
theorem pm_pow : OpR X (binaryOp .Pow) (rPrim2 X.K .pow) := by
  intro pins s sg H x y v u Q I rx ry h
  obtain ⟨J, ds, t, sm, vw, hp, q⟩ := h
  have hp : pPow ds = some t := hp
  unfold pPow at hp
  split at hp
  · obtain ⟨a, b⟩ := vw.two'
    split at hp
    · rename_i hz
      cases hp
      refine op_pow pins s sg H x y v u Q I rx ry ⟨_, _, a.int, b.int, ?_, q.val sm (.int _)⟩
      simp only [Bool.and_eq_true, decide_eq_true_eq] at hz
      exact ⟨hz.1.1, hz.1.2, hz.2⟩
    · cases hp
  · cases hp
theorem pm_neg : UnR X (unaryOp .USub) (fun x H Q => rPrim X.K .neg [x] H Q) := by
  intro pins s sg H x v Q I rx h
  obtain ⟨J, ds, t, sm, vw, hp, q⟩ := h
  have hp : pNeg ds = some t := hp
  unfold pNeg at hp
  split at hp
  · cases hp
    exact un_neg pins s sg H x v Q I rx ⟨_, vw.one'.int, q.val sm (.int _)⟩
  · cases hp
theorem shp_lay {d : PyData} (h : shp d = true) : d.canLay0 = true := by
  unfold shp SeqAt.shaped at h
  simp only [Bool.and_eq_true] at h
  exact h.1
theorem shp_depth {d : PyData} (h : shp d = true) : d.depth ≤ 64 := by
  unfold shp SeqAt.shaped at h
  simp only [Bool.and_eq_true, decide_eq_true_eq] at h
  exact h.2
theorem pm_eq (hu : X.A.units + 64 < cLine) : OpR X (compareOp .Eq) (rPrim2 X.K .eq) := by
  intro pins s sg H x y v u Q I rx ry h
  obtain ⟨J, ds, t, sm, vw, hp, q⟩ := h
  have hp : pEq ds = some t := hp
  unfold pEq at hp
  split at hp
  · cases hp
    obtain ⟨a, b⟩ := vw.two'
    rw [a.str] at rx
    rw [b.str] at ry
    refine op_eq pins s sg H _ _ v u Q I rx ry ⟨rfl, ?_⟩
    rw [dec_str]
    exact q.val sm (.bl _)
  · obtain ⟨a, b⟩ := vw.two'
    split at hp
    · rename_i hz
      cases hp
      simp only [Bool.and_eq_true] at hz
      exact op_eqD hu pins s sg H x y v u Q I rx ry ⟨_, _, a.dp sm (shp_lay hz.1), b.dp sm (shp_lay hz.2), hz.1, hz.2, q.val sm (.bl _)⟩
    · cases hp
  · cases hp
theorem pm_ne (hu : X.A.units + 64 < cLine) : OpR X (compareOp .NotEq) (rPrim2 X.K .ne) := by
  intro pins s sg H x y v u Q I rx ry h
  obtain ⟨J, ds, t, sm, vw, hp, q⟩ := h
  have hp : pNe ds = some t := hp
  unfold pNe at hp
  split at hp
  · cases hp
    obtain ⟨a, b⟩ := vw.two'
    rw [a.str] at rx
    rw [b.str] at ry
    refine op_ne pins s sg H _ _ v u Q I rx ry ⟨rfl, ?_⟩
    rw [dec_str]
    exact q.val sm (.bl _)
  · obtain ⟨a, b⟩ := vw.two'
    split at hp
    · rename_i hz
      cases hp
      simp only [Bool.and_eq_true] at hz
      exact op_neD hu pins s sg H x y v u Q I rx ry ⟨_, _, a.dp sm (shp_lay hz.1), b.dp sm (shp_lay hz.2), hz.1, hz.2, q.val sm (.bl _)⟩
    · cases hp
  · cases hp
theorem pm_lt (hu : X.A.units + 65 < cLine) : OpR X (compareOp .Lt) (rPrim2 X.K .lt) := by
  intro pins s sg H x y v u Q I rx ry h
  obtain ⟨J, ds, t, sm, vw, hp, q⟩ := h
  have hp : pLt ds = some t := hp
  unfold pLt at hp
  split at hp
  · cases hp
    obtain ⟨a, b⟩ := vw.two'
    exact op_lt pins s sg H x y v u Q I rx ry ⟨_, _, a.int, b.int, q.val sm (.bl _)⟩
  · split at hp
    · rename_i hz
      cases hp
      obtain ⟨a, b⟩ := vw.two'
      simp only [cmpOk, Bool.and_eq_true] at hz
      obtain ⟨⟨z1, z2⟩, z3⟩ := hz
      obtain ⟨as, r1⟩ := Dp.reads I _ x v (a.dp sm (shp_lay z1)) rx
      obtain ⟨bs, r2⟩ := Dp.reads I _ y u (b.dp sm (shp_lay z2)) ry
      have dz := shp_depth z1
      exact PySem.W.lt_data r1 r2 z3 (fun e => nomatch e) (by omega) ⟨.bl _, H, I, rfl, q.val sm (.bl _)⟩
    · cases hp
  · cases hp
theorem pm_le (hu : X.A.units + 65 < cLine) : OpR X (compareOp .LtE) (rPrim2 X.K .le) := by
  intro pins s sg H x y v u Q I rx ry h
  obtain ⟨J, ds, t, sm, vw, hp, q⟩ := h
  have hp : pLe ds = some t := hp
  unfold pLe at hp
  split at hp
  · cases hp
    obtain ⟨a, b⟩ := vw.two'
    exact op_le pins s sg H x y v u Q I rx ry ⟨_, _, a.int, b.int, q.val sm (.bl _)⟩
  · split at hp
    · rename_i hz
      cases hp
      obtain ⟨a, b⟩ := vw.two'
      simp only [cmpOk, Bool.and_eq_true] at hz
      obtain ⟨⟨z1, z2⟩, z3⟩ := hz
      obtain ⟨as, r1⟩ := Dp.reads I _ x v (a.dp sm (shp_lay z1)) rx
      obtain ⟨bs, r2⟩ := Dp.reads I _ y u (b.dp sm (shp_lay z2)) ry
      have dz := shp_depth z1
      exact PySem.W.le_data r1 r2 z3 (fun e => nomatch e) (by omega) ⟨.bl _, H, I, rfl, q.val sm (.bl _)⟩
    · cases hp
  · cases hp
theorem pm_gt (hu : X.A.units + 65 < cLine) : OpR X (compareOp .Gt) (rPrim2 X.K .gt) := by
  intro pins s sg H x y v u Q I rx ry h
  obtain ⟨J, ds, t, sm, vw, hp, q⟩ := h
  have hp : pGt ds = some t := hp
  unfold pGt at hp
  split at hp
  · cases hp
    obtain ⟨a, b⟩ := vw.two'
    exact op_gt pins s sg H x y v u Q I rx ry ⟨_, _, a.int, b.int, q.val sm (.bl _)⟩
  · split at hp
    · rename_i hz
      cases hp
      obtain ⟨a, b⟩ := vw.two'
      simp only [cmpOk, Bool.and_eq_true] at hz
      obtain ⟨⟨z1, z2⟩, z3⟩ := hz
      obtain ⟨as, r1⟩ := Dp.reads I _ x v (a.dp sm (shp_lay z1)) rx
      obtain ⟨bs, r2⟩ := Dp.reads I _ y u (b.dp sm (shp_lay z2)) ry
      have dz := shp_depth z1
      exact PySem.W.gt_data r1 r2 z3 (fun e => nomatch e) (by omega) ⟨.bl _, H, I, rfl, q.val sm (.bl _)⟩
    · cases hp
  · cases hp
theorem pm_ge (hu : X.A.units + 65 < cLine) : OpR X (compareOp .GtE) (rPrim2 X.K .ge) := by
  intro pins s sg H x y v u Q I rx ry h
  obtain ⟨J, ds, t, sm, vw, hp, q⟩ := h
  have hp : pGe ds = some t := hp
  unfold pGe at hp
  split at hp
  · cases hp
    obtain ⟨a, b⟩ := vw.two'
    exact op_ge pins s sg H x y v u Q I rx ry ⟨_, _, a.int, b.int, q.val sm (.bl _)⟩
  · split at hp
    · rename_i hz
      cases hp
      obtain ⟨a, b⟩ := vw.two'
      simp only [cmpOk, Bool.and_eq_true] at hz
      obtain ⟨⟨z1, z2⟩, z3⟩ := hz
      obtain ⟨as, r1⟩ := Dp.reads I _ x v (a.dp sm (shp_lay z1)) rx
      obtain ⟨bs, r2⟩ := Dp.reads I _ y u (b.dp sm (shp_lay z2)) ry
      have dz := shp_depth z1
      exact PySem.W.ge_data r1 r2 z3 (fun e => nomatch e) (by omega) ⟨.bl _, H, I, rfl, q.val sm (.bl _)⟩
    · cases hp
  · cases hp
open PySem.Spec PyProof.Rows in
theorem ix_dget (hu : X.A.units + 1 < cLine) : IxR X (fun x y H Q => ∃ a v, x = .ref a ∧ DGet H a y (some v) ∧ Q v H) := by
  intro value slice pins s sg H x y o i Q I rx ry h hs
  obtain ⟨a, v, rfl, g, q⟩ := h
  obtain rfl : o = Value.ref a := rx
  have hT := dict_typeIs I g
  have h2 : wpAny (model X.prog X.w) X.A (getItem (.ref a) i) (EP X pins sg Q) X.xe s := d_getItem hu I g ry fun w' s3 I3 rw' => ⟨v, H, I3, rw', q⟩
  unfold subscriptTail
  refine wpAny_bind ?_
  rw [getitemInPython_of_ne hT.not_modules]
  refine wpAny_bind (wpAny_specialOf hT PySem.F.slot_dict_getitem.lookup ?_)
  have fin : wpAny (model X.prog X.w) X.A (subscripted slice false (.ref a) i) (fun r s3 => wpAny (model X.prog X.w) X.A (letTemporaryGo value (.ref a) r >>= fun _ => pure r) (EP X pins sg Q) X.xe s3) X.xe s := by
    rw [hs]
    exact wpAny_operating (wpAny_mono h2 (fun r s3 h3 => wpAny_bind (wpAny_letTemporaryGo (wpAny_pure h3))) fun _ _ x => x)
  first
    | exact wpAny_pure (wpAny_bind fin)
    | exact wpAny_bind (wpAny_pure (wpAny_bind fin))
    | exact wpAny_bind fin
theorem pm_item (hu : X.A.units + 1 < cLine) : IxR X (rPrim2 X.K .item) := by
  intro value slice pins s sg H x y v u Q I rx ry h hs
  obtain ⟨J, ds, t, sm, vw, hp, q⟩ := h
  have hp : pItem ds = some t := hp
  unfold pItem at hp
  split at hp
  · obtain ⟨a, b⟩ := vw.two'
    obtain ⟨l, xs, rfl, ha, ga⟩ := a.list sm
    obtain ⟨d, hd, rfl⟩ := Option.map_eq_some_iff.mp hp
    obtain ⟨w, hw, gw⟩ := shsAt ga hd
    exact ix_list value slice pins s sg H _ _ v u Q I rx ry ⟨l, xs, _, w, rfl, b.int, .of ha, hw, q.val sm gw⟩ hs
  · obtain ⟨a, b⟩ := vw.two'
    obtain ⟨l, xs, rfl, _, ha, ga⟩ := a.tuple sm
    obtain ⟨d, hd, rfl⟩ := Option.map_eq_some_iff.mp hp
    obtain ⟨w, hw, gw⟩ := shsAt ga hd
    exact ix_tup value slice pins s sg H _ _ v u Q I rx ry ⟨l, xs, _, w, rfl, b.int, .of ha, hw, q.val sm gw⟩ hs
  · obtain ⟨a, b⟩ := vw.two'
    obtain ⟨l, xs, rfl, ha, ga⟩ := a.scr sm
    obtain ⟨d, hd, rfl⟩ := Option.map_eq_some_iff.mp hp
    obtain ⟨w, hw, gw⟩ := shsAt ga hd
    exact ix_list value slice pins s sg H _ _ v u Q I rx ry ⟨l, xs, _, w, rfl, b.int, ha, hw, q.val sm gw⟩ hs
  · obtain ⟨a, b⟩ := vw.two'
    split at hp
    · rename_i hk
      obtain ⟨d, hd, rfl⟩ := Option.map_eq_some_iff.mp hp
      obtain ⟨l, ho, rfl, ha, ga⟩ := a.dict sm
      obtain ⟨o, hg, ho2⟩ := ga.get sm ha (b.key sm hk)
      rw [hd] at ho2
      cases o with
      | none => exact ho2.elim
      | some w => exact ix_dget hu value slice pins s sg H _ _ v u Q I rx ry ⟨l, w, rfl, hg, q.val sm ho2⟩ hs
    · cases hp
  · obtain ⟨a, b⟩ := vw.two'
    split at hp
    · rename_i hz
      obtain ⟨c, hc, rfl⟩ := Option.map_eq_some_iff.mp hp
      exact ix_str value slice pins s sg H _ _ v u Q I rx ry ⟨_, _, c, a.str, b.int, by rw [sizeLine_eq]; exact of_decide_eq_true hz, hc, q.val sm (.str _)⟩ hs
    · cases hp
  · cases hp
theorem shsDrop {K : PySem.W.Frag} {J : Hp} : ∀ {vs : List V} {ds : List PyData} (j : Nat), ShAll K J vs ds → ShAll K J (vs.drop j) (ds.drop j)
  | _, _, 0, h => h
  | _, _, j + 1, .nil => .nil
  | _, _, j + 1, .cons _ t => shsDrop j t
theorem shsTake {K : PySem.W.Frag} {J : Hp} : ∀ {vs : List V} {ds : List PyData} (j : Nat), ShAll K J vs ds → ShAll K J (vs.take j) (ds.take j)
  | _, _, 0, _ => .nil
  | _, _, j + 1, .nil => .nil
  | _, _, j + 1, .cons h t => .cons h (shsTake j t)
theorem shsCut {K : PySem.W.Frag} {J : Hp} {vs : List V} {ds : List PyData} (h : ShAll K J vs ds) (lo hi : Option Int) : ShAll K J (cutV vs lo hi) (cutD ds lo hi) := by
  unfold cutV cutD
  rw [shsLen h]
  exact shsTake _ (shsDrop _ h)
theorem shsRev {K : PySem.W.Frag} {J : Hp} : ∀ {vs : List V} {ds : List PyData}, ShAll K J vs ds → ShAll K J vs.reverse ds.reverse
  | _, _, .nil => .nil
  | _, _, .cons h t => by
    rw [List.reverse_cons, List.reverse_cons]
    exact shsApp (shsRev t) (.cons h .nil)
def rCut (K : PySem.W.Frag) : V → Option Int → Option Int → Hp → VK → Prop := fun x lo hi H Q => ∃ J d t, Same J H ∧ Vw K H J x d ∧ cutP d lo hi = some t ∧ PrimQ K H J t Q
theorem pm_cut : SlR X (rCut X.K) := by
  intro pins s sg H x v vl vu lo hi sl Q I rx hs pl pu h
  obtain ⟨J, d, t, sm, a, hp, q⟩ := h
  unfold cutP at hp
  split at hp
  · cases hp
    obtain ⟨l, xs, rfl, ha, ga⟩ := a.list sm
    exact sl_list pins s sg H _ v vl vu lo hi sl Q I rx hs pl pu ⟨l, xs, rfl, .of ha, fun p hp => q.lst sm hp (shsCut ga lo hi)⟩
  · rename_i ds
    cases hp
    obtain ⟨l, xs, rfl, ja, ha, ga⟩ := a.tuple sm
    refine sl_tupA pins s sg H _ v vl vu lo hi sl Q I rx hs pl pu ⟨l, xs, rfl, .of ha, fun e => ?_, fun _ p hp => q.tup sm hp (shsCut ga lo hi)⟩
    refine q.val sm (.tup ja ?_)
    have := shsCut ga lo hi
    have e2 : cutV xs lo hi = xs := by
      unfold cutV
      rw [e.1, e.2]
      simp
    rw [e2] at this
    exact this
  · split at hp
    · rename_i z hz
      cases hp
      obtain rfl := a.str
      exact sl_str pins s sg H _ v vl vu lo hi sl Q I rx hs pl pu ⟨z, rfl, by rw [sizeLine_eq]; exact of_decide_eq_true hz, q.val sm (.str _)⟩
    · cases hp
  · cases hp
theorem pSl_some {bl bh : Bool} {ds : List PyData} {t : Slot} (h : pSl bl bh ds = some t) : (∃ d i, ds = [d, .int i] ∧ bl = true ∧ bh = false ∧ cutP d (some i) none = some t) ∨ (∃ d i, ds = [d, .int i] ∧ bl = false ∧ bh = true ∧ cutP d none (some i) = some t) ∨
    (∃ d i j, ds = [d, .int i, .int j] ∧ bl = true ∧ bh = true ∧ cutP d (some i) (some j) = some t) := by
  unfold pSl at h
  split at h
  · cases bl <;> cases bh <;> simp at h
    · exact .inr (.inl ⟨_, _, rfl, rfl, rfl, h⟩)
    · exact .inl ⟨_, _, rfl, rfl, rfl, h⟩
  · cases bl <;> cases bh <;> simp at h
    exact .inr (.inr ⟨_, _, _, rfl, rfl, rfl, h⟩)
  · cases h
theorem sl_lo {K : PySem.W.Frag} {H : Hp} {Q : VK} {v u : V} (h : rPrim K (.sl true false) [v, u] H Q) : ∃ i, u = .int i ∧ rCut K v (some i) none H Q := by
  obtain ⟨J, ds, t, sm, vw, hp, q⟩ := h
  rcases pSl_some (show pSl true false ds = some t from hp) with ⟨d, i, rfl, _, _, hc⟩ | ⟨_, _, _, e, _⟩ | ⟨_, _, _, _, _, e, _⟩
  · obtain ⟨a, b⟩ := vw.two'
    exact ⟨i, b.int, J, d, t, sm, a, hc, q⟩
  · cases e
  · cases e
theorem sl_hi {K : PySem.W.Frag} {H : Hp} {Q : VK} {v u : V} (h : rPrim K (.sl false true) [v, u] H Q) : ∃ i, u = .int i ∧ rCut K v none (some i) H Q := by
  obtain ⟨J, ds, t, sm, vw, hp, q⟩ := h
  rcases pSl_some (show pSl false true ds = some t from hp) with ⟨_, _, _, e, _⟩ | ⟨d, i, rfl, _, _, hc⟩ | ⟨_, _, _, _, e, _⟩
  · cases e
  · obtain ⟨a, b⟩ := vw.two'
    exact ⟨i, b.int, J, d, t, sm, a, hc, q⟩
  · cases e
theorem sl_lohi {K : PySem.W.Frag} {H : Hp} {Q : VK} {v u z : V} (h : rPrim K (.sl true true) [v, u, z] H Q) : ∃ i, u = .int i ∧ ∃ j, z = .int j ∧ rCut K v (some i) (some j) H Q := by
  obtain ⟨J, ds, t, sm, vw, hp, q⟩ := h
  rcases pSl_some (show pSl true true ds = some t from hp) with ⟨_, _, _, _, e, _⟩ | ⟨_, _, _, e, _⟩ | ⟨d, i, j, rfl, _, _, hc⟩
  · cases e
  · cases e
  · cases vw with
    | cons a b =>
      obtain ⟨b1, b2⟩ := b.two'
      exact ⟨i, b1.int, j, b2.int, J, d, t, sm, a, hc, q⟩
theorem Vw.dct0 {pins : List (Addr × Obj)} {sg : St} {H J : Hp} {s : Shared} {v : V} {t : Bool} (I : Inv X pins sg H s) (sm : Same J H) (h : Vw X.K H J v (.dict [(.bool t, .none)])) : ∃ l o es n, v = .ref l ∧ s.heap.get? l = some o ∧ o.cls = .type "dict" ∧ o.data = .dict es n ∧ es = #[] ∧ (l == sysModules) = false := by
  obtain ⟨l, ho, rfl, ha, hr⟩ := h.dict sm
  cases t with
  | false =>
    obtain ⟨ks, rfl, hk, _⟩ := hr
    obtain ⟨_, ns, vs, kv, ob, es, ep, e, c, c2, _, pr, _⟩ := (show ObjOk X.prog X.w H s.heap l (.dK ks) from ha.ok I.hok)
    have hks : ks = [] := by simpa using hk.symm
    subst hks
    have : vs = [] := by cases kv; rfl
    subst this
    have : es.toList = [] := by generalize es.toList = z at pr; cases pr; rfl
    exact ⟨l, ob, es, ep, rfl, e, c.1, c2, by simpa using this, ns⟩
  | true =>
    obtain ⟨ks, rfl, hk, _⟩ := hr
    obtain ⟨_, ns, vs, kv, ob, es, ep, e, c, c2, et, _⟩ := (show ObjOk X.prog X.w H s.heap l (.dT ks) from ha.ok I.hok)
    have hks : ks = [] := by simpa using hk.symm
    subst hks
    have : vs = [] := by cases kv; rfl
    subst this
    exact ⟨l, ob, es, ep, rfl, e, c.1, c2, by simpa using et, ns⟩
theorem rev_l {K : PySem.W.Frag} {H : Hp} {Q : VK} {v : V} (h : rPrim K .rev [v] H Q) : ∃ a xs, v = .ref a ∧ ((SqL K H a xs ∧ ∀ p, H p = none → Q (.ref p) (upd H p (.lst xs.reverse))) ∨ (SqT K H a xs ∧ ∀ p, H p = none → Q (.ref p) (upd H p (.tup xs.reverse)))) := by
  obtain ⟨J, ds, t, sm, vw, hp, q⟩ := h
  have hp : pRev ds = some t := hp
  unfold pRev at hp
  split at hp
  · cases hp
    obtain ⟨l, xs, rfl, ha, ga⟩ := vw.one'.list sm
    exact ⟨l, xs, rfl, .inl ⟨.of ha, fun p hp => q.lst sm hp (shsRev ga)⟩⟩
  · cases hp
    obtain ⟨l, xs, rfl, ja, ha, ga⟩ := vw.one'.tuple sm
    exact ⟨l, xs, rfl, .inr ⟨.of ha, fun p hp => q.tup sm hp (shsRev ga)⟩⟩
  · cases hp
theorem pm_str : CallR X (.type "str") (rPrim X.K .str_) := by
  intro pins s sg H vs us Q I rv h
  obtain ⟨J, ds, t, sm, vw, hp, q⟩ := h
  have hp : pStr ds = some t := hp
  unfold pStr at hp
  split at hp
  · split at hp
    · rename_i hz
      cases hp
      obtain ⟨v, rfl, a⟩ := vw.one
      rw [a.int] at rv
      exact call_str_int pins s sg H _ us Q I rv ⟨_, rfl, of_decide_eq_true hz, q.val sm (.str _)⟩
    · cases hp
  · cases hp
    obtain ⟨v, rfl, a⟩ := vw.one
    rw [a.str] at rv
    exact SkE.call_str_str pins s sg H _ us Q I rv ⟨_, rfl, q.val sm (.str _)⟩
  · cases hp
    obtain ⟨v, rfl, a⟩ := vw.one
    rw [a.bl] at rv
    obtain ⟨u, rfl, r⟩ := vals1 rv
    cases r
    refine PySem.P.str_of_bool ⟨.str _, H, I.tok _, ⟨_, rfl⟩, ?_⟩
    rename_i b
    cases b <;> exact q.val sm (.str _)
  · cases hp
theorem ite_some {p : Prop} [Decidable p] {a t : Slot} : (if p then some a else none) = some t ↔ p ∧ a = t := by
  by_cases h : p <;> simp [h]
theorem sh_empty {pins : List (Addr × Obj)} {sg : St} {H J : Hp} {s : Shared} {t : Bool} {v : V} {u : Value} (I : Inv X pins sg H s) (sm : Same J H) (h : Vw X.K H J v (.dict [(.bool t, .none)])) (r : RelV v u) :
    ∃ as bs, Reads s.heap u (clr (.dict [(.bool t, .none)])) as ∧ ReadAtMost s.heap (clr (.dict [(.bool t, .none)])).depth bs ∧ ReprK X.prog X.w bs s.heap (clr (.dict [(.bool t, .none)])).depth u (clr (.dict [(.bool t, .none)])).shown := by
  obtain ⟨l, o, es, n, rfl, e, c, hd, hes, hns⟩ := Vw.dct0 I sm h
  cases r
  have rd : Reads s.heap (.ref l) (.dict []) [l] := by
    have := Reads.dict (kvs := []) e c hd (by rw [hes]; exact .nil) (by rw [hes]; exact .nil)
    simpa using this
  refine ⟨_, [l], rd, ReadAtMost.cons rd (Nat.le_refl _) (fun _ h => nomatch h), ?_⟩
  have := ReprK.dict (prog := X.prog) (w := X.w) (as := []) (h₀ := s.heap) (d := 0) (ps := []) e c hd hns (by simp) (by rw [hes]; exact .nil)
  simp only [clr, PyData.depth, PyData.shown, PyData.shownKv, PyData.depthKv]
  exact this
theorem sh_empty' {pins : List (Addr × Obj)} {sg : St} {H J : Hp} {s : Shared} {t : Bool} {v : V} {u : Value} {kvs : List (PyData × PyData)} (e : kvs = []) (h : Sh X.K J v (.dict ((.bool t, .none) :: kvs))) (I : Inv X pins sg H s) (sm : Same J H) (r : RelV v u) :
    ∃ as bs, Reads s.heap u (clr (.dict ((.bool t, .none) :: kvs))) as ∧ ReadAtMost s.heap (clr (.dict ((.bool t, .none) :: kvs))).depth bs ∧ ReprK X.prog X.w bs s.heap (clr (.dict ((.bool t, .none) :: kvs))).depth u (clr (.dict ((.bool t, .none) :: kvs))).shown := by
  subst e
  exact sh_empty I sm (.inl h) r
mutual
/-- the reading of data whose dicts are empty, and what repr tells of it -/
theorem sh_reads {pins : List (Addr × Obj)} {sg : St} {H J : Hp} {s : Shared} (I : Inv X pins sg H s) (sm : Same J H) : ∀ {d : PyData} {v : V} {u : Value}, Sh X.K J v d → okEmp d = true → RelV v u → (clr d).showable = true → (clr d).shown.length ≤ sizeLine →
    ∃ as bs, Reads s.heap u (clr d) as ∧ ReadAtMost s.heap (clr d).depth bs ∧ ReprK X.prog X.w bs s.heap (clr d).depth u (clr d).shown
  | _, _, _, .non, _, r, _, _ => by
    cases r
    exact ⟨_, [], Reads.none, (fun _ h => nomatch h), by simp only [clr, PyData.shown]; exact .of_is ReprIs.none _ _ _⟩
  | _, _, _, .bl b, _, r, _, _ => by
    cases r
    exact ⟨_, [], Reads.bool b, (fun _ h => nomatch h), by simp only [clr, PyData.shown]; exact .of_is (ReprIs.bool b) _ _ _⟩
  | _, _, _, .int i, _, r, hs, _ => by
    obtain ⟨t, rfl⟩ := r
    exact ⟨_, [], Reads.int i t, (fun _ h => nomatch h), by simp only [clr, PyData.shown]; exact .of_is (ReprIs.int t (by simpa [clr, PyData.showable] using hs)) _ _ _⟩
  | _, _, _, .str x, _, r, _, hz => by
    obtain ⟨t, rfl⟩ := r
    exact ⟨_, [], Reads.str x t, (fun _ h => nomatch h), by simp only [clr, PyData.shown]; exact .of_is (ReprIs.str x t (by simpa only [clr, PyData.shown] using hz)) _ _ _⟩
  | _, _, _, .lst (a := a) (xs := xs) (ds := ds) h g, ok, r, hs, hz => by
    cases r
    obtain ⟨its, rv, ⟨o, n, ho, hc, _, hd⟩, _⟩ := I.list (.of (sm _ _ h))
    simp only [clr] at hs hz ⊢
    have hz' : (listText (PyData.shownAll (clrA ds))).length ≤ sizeLine := by simpa only [PyData.shown] using hz
    obtain ⟨as, bs, ra, hb, hk⟩ := shs_reads I sm g (by simpa [okEmp] using ok) rv (by simpa [PyData.showable] using hs) (fun t ht => Nat.le_trans (listText_mem_le ht) hz')
    have r : Reads s.heap (.ref a) (.list (clrA ds)) _ := .list ho hc hd ra
    have hna : a ∉ bs := not_mem_of_deeper r (by simp only [PyData.depth]; omega) hb
    refine ⟨_, a :: bs, r, ReadAtMost.cons r (by simp only [PyData.depth]; omega) hb, ?_⟩
    simp only [PyData.depth, PyData.shown]
    cases its with
    | nil =>
      have e : clrA ds = [] := by
        generalize clrA ds = z at ra
        cases ra
        rfl
      rw [e]
      simp only [PyData.shownAll, listText_nil]
      exact ReprK.listEmpty ho hc hd
    | cons x l => exact ReprK.list ho hc hd hna (by simpa using hk.length_eq) (fun i y e => hk.item i y (by simpa using e))
  | _, _, _, .tup (a := a) (xs := xs) (ds := ds) h g, ok, r, hs, hz => by
    cases r
    obtain ⟨its, rv, ⟨o, ho, hc, n, hd⟩, _⟩ := I.tuple (.of (sm _ _ h))
    simp only [clr] at hs hz ⊢
    have hz' : (tupleText (PyData.shownAll (clrA ds))).length ≤ sizeLine := by simpa only [PyData.shown] using hz
    obtain ⟨as, bs, ra, hb, hk⟩ := shs_reads I sm g (by simpa [okEmp] using ok) rv (by simpa [PyData.showable] using hs) (fun t ht => Nat.le_trans (tupleText_mem_le ht) hz')
    have r : Reads s.heap (.ref a) (.tuple (clrA ds)) _ := .tuple ho hc hd ra
    have hna : a ∉ bs := not_mem_of_deeper r (by simp only [PyData.depth]; omega) hb
    refine ⟨_, a :: bs, r, ReadAtMost.cons r (by simp only [PyData.depth]; omega) hb, ?_⟩
    simp only [PyData.depth, PyData.shown]
    exact ReprK.tuple ho hc hd hna (by simpa using hk)
  | _, _, _, .dK (a := a) (kvs := kvs) h k g, ok, r, _, _ => by
    have e : kvs = [] := by
      cases kvs with
      | nil => rfl
      | cons p l => simp [okEmp] at ok
    exact sh_empty' e (.dK h k g) I sm r
  | _, _, _, .dT (a := a) (kvs := kvs) h k g, ok, r, _, _ => by
    have e : kvs = [] := by
      cases kvs with
      | nil => rfl
      | cons p l => simp [okEmp] at ok
    exact sh_empty' e (.dT h k g) I sm r
  | _, _, _, .scr _, ok, _, _, _ => by simp [okEmp] at ok
  | _, _, _, .exc0 _ _, ok, _, _, _ => by simp [okEmp] at ok
  | _, _, _, .exc1 _ _ _ _, ok, _, _, _ => by simp [okEmp] at ok
  | _, _, _, .fnv _ _, ok, _, _, _ => by simp [okEmp] at ok
theorem shs_reads {pins : List (Addr × Obj)} {sg : St} {H J : Hp} {s : Shared} (I : Inv X pins sg H s) (sm : Same J H) : ∀ {ds : List PyData} {vs : List V} {us : List Value}, ShAll X.K J vs ds → okEmpA ds = true → Vals vs us → PyData.showableAll (clrA ds) = true → (∀ t ∈ PyData.shownAll (clrA ds), t.length ≤ sizeLine) →
    ∃ as bs, ReadsAll s.heap us (clrA ds) as ∧ ReadAtMost s.heap (PyData.depthAll (clrA ds)) bs ∧ ReprAllK X.prog X.w bs s.heap (PyData.depthAll (clrA ds)) us (PyData.shownAll (clrA ds))
  | _, _, _, .nil, _, r, _, _ => by
    cases r
    exact ⟨_, [], ReadsAll.nil, (fun _ h => nomatch h), by simp only [clrA, PyData.shownAll]; exact .nil⟩
  | _, _, _, .cons (d := d) (ds := ds) h g, ok, r, hs, hz => by
    cases r with
    | cons r1 r2 =>
      simp only [okEmpA, Bool.and_eq_true] at ok
      simp only [clrA, PyData.showableAll, Bool.and_eq_true] at hs
      simp only [clrA, PyData.shownAll] at hz ⊢
      obtain ⟨as, b1, q1, hb1, k1⟩ := sh_reads I sm h ok.1 r1 hs.1 (hz _ (List.mem_cons_self ..))
      obtain ⟨as2, b2, q2, hb2, k2⟩ := shs_reads I sm g ok.2 r2 hs.2 (fun t ht => hz t (List.mem_cons_of_mem _ ht))
      refine ⟨_, b1 ++ b2, ReadsAll.cons q1 q2, ?_, ?_⟩
      · intro b hm
        simp only [PyData.depthAll]
        rcases List.mem_append.mp hm with hm | hm
        · obtain ⟨d', as', r', hd'⟩ := hb1 b hm
          exact ⟨d', as', r', Nat.le_trans hd' (Nat.le_max_left _ _)⟩
        · obtain ⟨d', as', r', hd'⟩ := hb2 b hm
          exact ⟨d', as', r', Nat.le_trans hd' (Nat.le_max_right _ _)⟩
      · simp only [PyData.depthAll]
        exact .cons ((k1.more fun b hb => List.mem_append_left _ hb).level_le (Nat.le_max_left _ _)) (k2.more_le (fun b hb => List.mem_append_right _ hb) (Nat.le_max_right _ _))
end
theorem pm_repr (gd : X.A.guards = some []) (hu : X.A.units + 66 < cLine) : CallR X (.builtin "repr") (rPrim X.K .repr) := by
  intro pins s sg H vs us Q I rv h
  obtain ⟨J, ds, t, sm, vw, hp, q⟩ := h
  replace hp : pRepr ds = some t := hp
  unfold pRepr at hp
  split at hp
  · rename_i d
    obtain ⟨v, rfl, a⟩ := vw.one
    cases rv with
    | cons r0 r1 =>
      rename_i u ur
      cases r1
      split at hp
      · rename_i hz
        cases hp
        simp only [Bool.and_eq_true] at hz
        obtain ⟨⟨h1, h2⟩, h3⟩ := hz
        have hl := shp_lay h1
        have hd := shp_depth h1
        have hsz : d.shown.length ≤ sizeLine := by rw [sizeLine_eq]; exact of_decide_eq_true h3
        obtain ⟨as, rd⟩ := Dp.reads I d v u (a.dp sm hl) r0
        have fin : ∀ (h' : Heap) (tk : Tok) (tk2 : Nat), (∀ b o, s.heap.get? b = some o → h'.get? b = some o) → EP X pins sg Q (.str d.shown tk) { s with heap := h', toks := tk2 } := fun h' tk tk2 kp => ⟨.str d.shown, H, I.kept (t' := tk2) kp, ⟨tk, rfl⟩, q.val sm (.str _)⟩
        have leaf : ∀ {x : Str} {tk : Tok} {tk2 : Nat}, d.shown = x → EP X pins sg Q (.str x tk) { s with toks := tk2 } := fun {x tk tk2} e => by
          rw [← e]; exact fin s.heap tk tk2 fun _ _ z => z
        cases d with
        | none => cases rd; exact PySem.P.repr_of_none (leaf (by simp only [PyData.shown]))
        | bool b => cases rd; exact PySem.P.repr_of_bool (leaf (by simp only [PyData.shown]))
        | int i => cases rd; exact PySem.P.repr_of_int (by simpa [PyData.showable] using h2) (leaf (by simp only [PyData.shown]))
        | str z => cases rd; exact PySem.P.repr_of_str (leaf (by simp only [PyData.shown])) (by simpa only [PyData.shown] using hsz)
        | dict _ => simp [PyData.canLay0] at hl
        | list l =>
          obtain ⟨aa, rfl⟩ := PyProof.Rows.isRef_of_reads rd rfl
          exact repr_of_reads' rd h2 (PyData.noDict_hsm (PyData.hasDict_of_canLay _ hl)) gd (by omega) (fun _ _ z => z) (fun h' tk tk2 kp => fin h' tk tk2 kp) hsz
        | tuple l =>
          obtain ⟨aa, rfl⟩ := PyProof.Rows.isRef_of_reads rd rfl
          exact repr_of_reads' rd h2 (PyData.noDict_hsm (PyData.hasDict_of_canLay _ hl)) gd (by omega) (fun _ _ z => z) (fun h' tk tk2 kp => fin h' tk tk2 kp) hsz
      · split at hp
        · rename_i d' b hz
          cases hp
          obtain ⟨l, o, es, n, rfl, e, c, hd, hes, hns⟩ := Vw.dct0 I sm a
          cases r0
          have rd : Reads s.heap (.ref l) (.dict []) [l] := by
            have := Reads.dict (kvs := []) e c hd (by rw [hes]; exact .nil) (by rw [hes]; exact .nil)
            simpa using this
          exact repr_of_reads' rd (by simp [PyData.showable, PyData.showableKv]) (fun _ z => by simp only [List.mem_singleton] at z; rw [z] at hns; simp at hns) gd (by simp [PyData.depth, PyData.depthKv]; omega) (fun _ _ z => z)
            (fun h' tk tk2 kp => ⟨.str (Str.ofString "{}"), H, I.kept (t' := tk2) kp, ⟨tk, by simp only [PyData.shown, PyData.shownKv]; rfl⟩, q.val sm (.str _)⟩) (by simp only [PyData.shown, PyData.shownKv]; decide +kernel)
        · rename_i d' b hz
          cases hp
          obtain ⟨la, xs, rfl, hla, hsh⟩ := a.list sm
          cases r0
          cases hsh with
          | cons hx hn =>
            cases hn
            obtain ⟨l, o, es, n, rfl, e, c, hd, hes, hns⟩ := Vw.dct0 I sm (.inl hx)
            have rd : Reads s.heap (.ref l) (.dict []) [l] := by
              have := Reads.dict (kvs := []) e c hd (by rw [hes]; exact .nil) (by rw [hes]; exact .nil)
              simpa using this
            obtain ⟨its, rr, pl, hzz⟩ := I.list (.of hla)
            cases rr with
            | cons rx rn =>
              cases rn
              cases rx
              obtain ⟨oa, ha1, ha2, na, ha3⟩ := id pl.isList
              have rds : ReadsAll s.heap [Value.ref l] [PyData.dict []] ([l] ++ []) := .cons rd .nil
              obtain ⟨bs, hb, hk⟩ := ReprAllK.of_readsAll (prog := X.prog) (w := X.w) rds (by simp [PyData.showableAll, PyData.showable, PyData.showableKv]) (fun _ z => by simp only [List.append_nil, List.mem_singleton] at z; rw [z] at hns; simp at hns) (fun t ht => by
                simp only [PyData.shownAll, PyData.shown, PyData.shownKv, List.mem_singleton] at ht
                rw [ht]; decide +kernel)
              have rl : Reads s.heap (.ref la) (.list [.dict []]) (la :: ([l] ++ [])) := Reads.list ha1 ha2 ha3 rds
              have hna : la ∉ bs := not_mem_of_deeper rl (by simp only [PyData.depth]; omega) hb
              refine call_repr_slot (by omega) ⟨oa, ha1, ha2⟩ F.slot_list_repr.toG (call_list_reprK ha1 ha2 ha3 hna (by simpa using hk.length_eq) (fun i y e => hk.item i y (by simpa using e)) (g := []) gd (fun b _ => Clear.nil b) (by simp [PyData.depthAll, PyData.depth, PyData.depthKv]; show X.A.units + 1 + _ < cLine; omega) (fun _ _ z => z) (fun h' tk tk2 kp => ?_) (by simp only [PyData.shownAll, PyData.shown, PyData.shownKv]; decide +kernel))
              exact ⟨_, tk, rfl, .str (Str.ofString "[{}]"), H, I.kept (t' := tk2) kp, ⟨tk, by simp only [PyData.shownAll, PyData.shown, PyData.shownKv]; rfl⟩, q.val sm (.str _)⟩
        · rename_i x xs hz hz2
          rw [ite_some] at hp
          obtain ⟨hz, hp⟩ := hp
          cases hp
          simp only [Bool.and_eq_true, decide_eq_true_eq] at hz
          obtain ⟨⟨⟨h1, h2⟩, h3⟩, h4⟩ := hz
          have hsz : (clr (.list (x :: xs))).shown.length ≤ sizeLine := by rw [sizeLine_eq]; exact of_decide_eq_true h4
          obtain ⟨la, vs, rfl, hla, hsh⟩ := a.list sm
          cases r0
          obtain ⟨its, rr, ⟨o, n, ho, hc, _, hd⟩, _⟩ := I.list (.of hla)
          simp only [clr, PyData.shown] at hsz
          simp only [clr, PyData.depth] at h3
          obtain ⟨as, bs, ra, hb, hk⟩ := shs_reads I sm hsh (by simpa [okEmp] using h1) rr (by simpa [clr, PyData.showable] using h2) (fun t ht => Nat.le_trans (listText_mem_le ht) hsz)
          have r : Reads s.heap (.ref la) (.list (clrA (x :: xs))) _ := .list ho hc hd ra
          have hna : la ∉ bs := not_mem_of_deeper r (by simp only [PyData.depth]; omega) hb
          cases its with
          | nil => cases ra
          | cons y l =>
            refine call_repr_slot (by omega) ⟨o, ho, hc⟩ F.slot_list_repr.toG (call_list_reprK ho hc hd hna (by simpa using hk.length_eq) (fun i y e => hk.item i y (by simpa using e)) (g := []) gd (fun b _ => Clear.nil b) (by show X.A.units + 1 + _ < cLine; omega) (fun _ _ z => z) (fun h' tk tk2 kp => ?_) hsz)
            exact ⟨_, tk, rfl, .str (clr (.list (x :: xs))).shown, H, I.kept (t' := tk2) kp, ⟨tk, by simp only [clr, PyData.shown]⟩, q.val sm (.str _)⟩
        · rename_i xs hz
          rw [ite_some] at hp
          obtain ⟨hz, hp⟩ := hp
          cases hp
          simp only [Bool.and_eq_true, decide_eq_true_eq] at hz
          obtain ⟨⟨⟨h1, h2⟩, h3⟩, h4⟩ := hz
          have hsz : (clr (.tuple xs)).shown.length ≤ sizeLine := by rw [sizeLine_eq]; exact of_decide_eq_true h4
          obtain ⟨la, vs, rfl, _, hla, hsh⟩ := a.tuple sm
          cases r0
          obtain ⟨its, rr, ⟨o, ho, hc, n, hd⟩, _⟩ := I.tuple (.of hla)
          simp only [clr, PyData.shown] at hsz
          simp only [clr, PyData.depth] at h3
          obtain ⟨as, bs, ra, hb, hk⟩ := shs_reads I sm hsh (by simpa [okEmp] using h1) rr (by simpa [clr, PyData.showable] using h2) (fun t ht => Nat.le_trans (tupleText_mem_le ht) hsz)
          have r : Reads s.heap (.ref la) (.tuple (clrA xs)) _ := .tuple ho hc hd ra
          have hna : la ∉ bs := not_mem_of_deeper r (by simp only [PyData.depth]; omega) hb
          refine call_repr_slot (by omega) ⟨o, ho, hc⟩ F.slot_tuple_repr (call_tuple_reprK ho hc hd hna (by simpa using hk) (g := []) gd (fun b _ => Clear.nil b) (by show X.A.units + 1 + _ < cLine; omega) (fun _ _ z => z) (fun h' tk tk2 kp => ?_) hsz)
          exact ⟨_, tk, rfl, .str (clr (.tuple xs)).shown, H, I.kept (t' := tk2) kp, ⟨tk, by simp only [clr, PyData.shown]⟩, q.val sm (.str _)⟩
        · cases hp
  · cases hp
theorem pm_len : CallR X (.builtin "len") (rPrim X.K .len) := by
  intro pins s sg H vs us Q I rv h
  obtain ⟨J, ds, t, sm, vw, hp, q⟩ := h
  have hp : pLen ds = some t := hp
  unfold pLen at hp
  split at hp
  · cases hp
    obtain ⟨v, rfl, a⟩ := vw.one
    obtain ⟨l, xs, rfl, ha, ga⟩ := a.list sm
    exact call_len_seq pins s sg H _ us Q I rv ⟨l, xs, rfl, .inl (.of ha), by rw [shsLen ga]; exact q.val sm (.int _)⟩
  · cases hp
    obtain ⟨v, rfl, a⟩ := vw.one
    obtain ⟨l, xs, rfl, _, ha, ga⟩ := a.tuple sm
    exact call_len_seq pins s sg H _ us Q I rv ⟨l, xs, rfl, .inr (.of ha), by rw [shsLen ga]; exact q.val sm (.int _)⟩
  · cases hp
    obtain ⟨v, rfl, a⟩ := vw.one
    obtain ⟨l, xs, rfl, ha, ga⟩ := a.scr sm
    exact call_len_seq pins s sg H _ us Q I rv ⟨l, xs, rfl, .inl ha, by rw [shsLen ga]; exact q.val sm (.int _)⟩
  · cases hp
    obtain ⟨v, rfl, a⟩ := vw.one
    obtain ⟨l, ho, rfl, ha, ga⟩ := a.dict sm
    rename_i t' kvs
    cases t' with
    | false =>
      obtain ⟨ks, rfl, h1, h2⟩ := ga
      have hl : ks.length = kvs.length := by simpa using (congrArg List.length h1).symm
      obtain ⟨u, rfl, ru⟩ := vals1 rv
      cases ru
      exact d_len I ha fun t s' I' => ⟨.int ks.length, H, I', ⟨t, rfl⟩, by rw [hl]; exact q.val sm (.int _)⟩
    | true =>
      obtain ⟨ks, rfl, h1, h2⟩ := ga
      have hl : ks.length = kvs.length := by simpa using (congrArg List.length h1).symm
      obtain ⟨u, rfl, rx⟩ := vals1 rv
      obtain rfl : u = .ref l := rx
      obtain ⟨z, hd, ys, rel, dd⟩ := dt_rd I.hok ha
      have hz : ks.length = ys.length := Paired.length rel
      refine call_len_dictH hd dd (by rw [← hz]; rw [sizeLine_eq] at z; omega) ?_
      rw [← hz]
      exact ⟨.int ks.length, H, I.tok _, ⟨_, rfl⟩, by rw [hl]; exact q.val sm (.int _)⟩
  · split at hp
    · rename_i hz
      cases hp
      obtain ⟨v, rfl, a⟩ := vw.one
      rw [a.str] at rv
      exact call_len_str pins s sg H _ us Q I rv ⟨_, rfl, by rw [sizeLine_eq]; exact of_decide_eq_true hz, q.val sm (.int _)⟩
    · cases hp
  · cases hp
theorem intsD_eq : ∀ {ds : List PyData} {ns : List Int}, intsD ds = some ns → ds = ns.map PyData.int
  | [], ns, h => by simp only [intsD] at h; cases h; rfl
  | d :: ds, ns, h => by
    cases d <;> simp only [intsD] at h <;> try (cases h; done)
    obtain ⟨m, hm, rfl⟩ := Option.map_eq_some_iff.mp h
    rw [intsD_eq hm]
    rfl
theorem shs_ints {K : PySem.W.Frag} {J : Hp} : ∀ {ns : List Int} {xs : List V}, ShAll K J xs (ns.map PyData.int) → xs = ns.map V.int
  | [], _, h => by cases h; rfl
  | n :: ns, _, h => by
    cases h with
    | cons a b => cases a; rw [shs_ints b]; rfl
theorem maxI_ok : ∀ (ns : List Int) (m : Int), maxI m ns ∈ m :: ns ∧ ∀ y ∈ m :: ns, y ≤ maxI m ns
  | [], m => ⟨List.mem_cons_self .., fun y h => by rw [List.mem_singleton.mp h]; exact Int.le_refl _⟩
  | n :: ns, m => by
    obtain ⟨a, b⟩ := maxI_ok ns (if n > m then n else m)
    have hm : (if n > m then n else m) = n ∨ (if n > m then n else m) = m := by split <;> simp
    have h0 := b _ (List.mem_cons_self ..)
    refine ⟨?_, fun y hy => ?_⟩
    · show maxI (if n > m then n else m) ns ∈ _
      rcases List.mem_cons.mp a with a | a
      · rw [a]; rcases hm with e | e <;> rw [e] <;> simp
      · simp [a]
    · show y ≤ maxI (if n > m then n else m) ns
      rcases List.mem_cons.mp hy with e | hy
      · rw [e]; refine Int.le_trans ?_ h0; split <;> omega
      · rcases List.mem_cons.mp hy with e | hy
        · rw [e]; refine Int.le_trans ?_ h0; split <;> omega
        · exact b y (List.mem_cons_of_mem _ hy)
theorem minI_ok : ∀ (ns : List Int) (m : Int), minI m ns ∈ m :: ns ∧ ∀ y ∈ m :: ns, minI m ns ≤ y
  | [], m => ⟨List.mem_cons_self .., fun y h => by rw [List.mem_singleton.mp h]; exact Int.le_refl _⟩
  | n :: ns, m => by
    obtain ⟨a, b⟩ := minI_ok ns (if n < m then n else m)
    have hm : (if n < m then n else m) = n ∨ (if n < m then n else m) = m := by split <;> simp
    have h0 := b _ (List.mem_cons_self ..)
    refine ⟨?_, fun y hy => ?_⟩
    · show minI (if n < m then n else m) ns ∈ _
      rcases List.mem_cons.mp a with a | a
      · rw [a]; rcases hm with e | e <;> rw [e] <;> simp
      · simp [a]
    · show minI (if n < m then n else m) ns ≤ y
      rcases List.mem_cons.mp hy with e | hy
      · rw [e]; refine Int.le_trans h0 ?_; split <;> omega
      · rcases List.mem_cons.mp hy with e | hy
        · rw [e]; refine Int.le_trans h0 ?_; split <;> omega
        · exact b y (List.mem_cons_of_mem _ hy)
theorem pm_max2 (hc : X.calm = true) : CallR X (.builtin "max") (rPrim X.K .max2) := by
  intro pins s sg H vs us Q I rv h
  obtain ⟨J, ds, t, sm, vw, hp, q⟩ := h
  have hp : pMax2 ds = some t := hp
  unfold pMax2 at hp
  split at hp
  · cases hp
    obtain ⟨v, u, rfl, a, b⟩ := vw.two
    rw [a.int, b.int] at rv
    exact call_max2 hc pins s sg H _ us Q I rv ⟨_, _, rfl, q.val sm (.int _)⟩
  · split at hp
    · rename_i n ns hi
      cases hp
      obtain ⟨v, rfl, a⟩ := vw.one
      obtain ⟨l, xs, rfl, ha, ga⟩ := a.list sm
      rw [intsD_eq hi] at ga
      have ex := shs_ints ga
      subst ex
      refine cr_max hc pins s sg H _ us Q I rv ⟨l, n :: ns, rfl, .of ha, Nat.succ_pos _, fun m h1 h2 => ?_⟩
      obtain ⟨m1, m2⟩ := maxI_ok ns n
      have : m = maxI n ns := Int.le_antisymm (m2 m h1) (h2 _ m1)
      rw [this]
      exact q.val sm (.int _)
    · cases hp
  · cases hp
theorem pm_min2 (hc : X.calm = true) : CallR X (.builtin "min") (rPrim X.K .min2) := by
  intro pins s sg H vs us Q I rv h
  obtain ⟨J, ds, t, sm, vw, hp, q⟩ := h
  have hp : pMin2 ds = some t := hp
  unfold pMin2 at hp
  split at hp
  · cases hp
    obtain ⟨v, u, rfl, a, b⟩ := vw.two
    rw [a.int, b.int] at rv
    exact call_min2 hc pins s sg H _ us Q I rv ⟨_, _, rfl, q.val sm (.int _)⟩
  · split at hp
    · rename_i n ns hi
      cases hp
      obtain ⟨v, rfl, a⟩ := vw.one
      obtain ⟨l, xs, rfl, ha, ga⟩ := a.list sm
      rw [intsD_eq hi] at ga
      have ex := shs_ints ga
      subst ex
      refine cr_min hc pins s sg H _ us Q I rv ⟨l, n :: ns, rfl, .of ha, Nat.succ_pos _, fun m h1 h2 => ?_⟩
      obtain ⟨m1, m2⟩ := minI_ok ns n
      have : m = minI n ns := Int.le_antisymm (h2 _ m1) (m2 m h1)
      rw [this]
      exact q.val sm (.int _)
    · cases hp
  · cases hp
theorem pm_sum (hc : X.calm = true) : CallR X (.builtin "sum") (rPrim X.K .sum) := by
  intro pins s sg H vs us Q I rv h
  obtain ⟨J, ds, t, sm, vw, hp, q⟩ := h
  have hp : pSum ds = some t := hp
  unfold pSum at hp
  split at hp
  · obtain ⟨ns, hi, rfl⟩ := Option.map_eq_some_iff.mp hp
    obtain ⟨v, rfl, a⟩ := vw.one
    obtain ⟨l, xs, rfl, ha, ga⟩ := a.list sm
    rw [intsD_eq hi] at ga
    have ex := shs_ints ga
    subst ex
    exact cr_sum hc pins s sg H _ us Q I rv ⟨l, ns, rfl, .of ha, q.val sm (.int _)⟩
  · obtain ⟨ns, hi, rfl⟩ := Option.map_eq_some_iff.mp hp
    obtain ⟨v, rfl, a⟩ := vw.one
    obtain ⟨l, xs, rfl, _, ha, ga⟩ := a.tuple sm
    rw [intsD_eq hi] at ga
    have ex := shs_ints ga
    subst ex
    cases rv with
    | cons r1 r2 =>
      cases r2
      cases r1
      obtain ⟨hl, its, rits, eo⟩ := (show ObjOk X.prog X.w H s.heap l (.tup (ns.map V.int)) from I.hok l _ ha)
      exact sum_tup (I.ok.hd hc) eo rits.ints fun h' tk t' hk => ⟨.int _, H, I.kept hk, ⟨_, rfl⟩, q.val sm (.int _)⟩
  · cases hp
theorem Vw.isNon {K : PySem.W.Frag} {H J : Hp} {v : V} {d : PyData} (h : Vw K H J v d) : decide (v = .non) = Ev.isNon d := by
  rcases h with h | ⟨a, xs, es, rfl, rfl, _⟩ | ⟨_, _, _, _, rfl, rfl, _⟩
  · cases h <;> rfl
  · rfl
  · rfl
theorem Vw.non {K : PySem.W.Frag} {H J : Hp} {v : V} (h : Vw K H J v .none) : v = .non := of_decide_eq_true (h.isNon.trans rfl)
theorem pm_is : OpR X (compareOp .Is) (rPrim2 X.K .is_) := by
  intro pins s sg H x y v u Q I rx ry h
  obtain ⟨J, ds, t, sm, vw, hp, q⟩ := h
  have hp : pIs ds = some t := hp
  unfold pIs at hp
  split at hp
  · cases hp
    obtain ⟨a, b⟩ := vw.two'
    refine op_isN pins s sg H x y v u Q I rx ry ⟨b.non, ?_⟩
    rw [a.isNon]
    exact q.val sm (.bl _)
  · cases hp
    obtain ⟨a, b⟩ := vw.two'
    exact op_isBl pins s sg H x y v u Q I rx ry ⟨_, _, a.bl, b.bl, q.val sm (.bl _)⟩
  · cases hp
theorem pm_isnot : OpR X (compareOp .IsNot) (rPrim2 X.K .isnot) := by
  intro pins s sg H x y v u Q I rx ry h
  obtain ⟨J, ds, t, sm, vw, hp, q⟩ := h
  have hp : pIsnot ds = some t := hp
  unfold pIsnot at hp
  split at hp
  · cases hp
    obtain ⟨a, b⟩ := vw.two'
    refine op_notN pins s sg H x y v u Q I rx ry ⟨b.non, ?_⟩
    rw [a.isNon]
    exact q.val sm (.bl _)
  · cases hp
    obtain ⟨a, b⟩ := vw.two'
    exact op_notBl pins s sg H x y v u Q I rx ry ⟨_, _, a.bl, b.bl, q.val sm (.bl _)⟩
  · cases hp
theorem op_dget_in (hu : X.A.units + 1 < cLine) : OpR X (compareOp .In) (fun x y H Q => ∃ a o, y = .ref a ∧ DGet H a x o ∧ Q (.bl o.isSome) H) := by
  intro pins s sg H x y v u Q I rx ry h
  obtain ⟨a, o, rfl, g, q⟩ := h
  obtain rfl : u = Value.ref a := ry
  exact d_in hu I g rx fun s3 I3 => ⟨.bl o.isSome, H, I3, rfl, q⟩
theorem op_dget_notin (hu : X.A.units + 1 < cLine) : OpR X (compareOp .NotIn) (fun x y H Q => ∃ a o, y = .ref a ∧ DGet H a x o ∧ Q (.bl (!o.isSome)) H) := by
  intro pins s sg H x y v u Q I rx ry h
  obtain ⟨a, o, rfl, g, q⟩ := h
  obtain rfl : u = Value.ref a := ry
  exact d_notIn hu I g rx fun s3 I3 => ⟨.bl (!o.isSome), H, I3, rfl, q⟩
theorem sh_flat {K : PySem.W.Frag} {J : Hp} {v : V} {d : PyData} (h : Sh K J v d) (hd : flatD d = true) : flatV v = true := by
  cases h <;> first | rfl | exact absurd hd Bool.false_ne_true
theorem Vw.shF {K : PySem.W.Frag} {H J : Hp} {v : V} {d : PyData} (h : Vw K H J v d) (hd : flatD d = true) : Sh K J v d := by
  rcases h with h | ⟨_, _, _, _, e, _⟩ | ⟨_, _, _, _, _, e, _⟩
  · exact h
  · rw [e] at hd; exact absurd hd Bool.false_ne_true
  · rw [e] at hd; exact absurd hd Bool.false_ne_true
theorem Vw.flat {K : PySem.W.Frag} {H J : Hp} {v : V} {d : PyData} (h : Vw K H J v d) (hd : flatD d = true) : flatV v = true := sh_flat (h.shF hd) hd
theorem shs_flat {K : PySem.W.Frag} {J : Hp} : ∀ {xs : List V} {ds : List PyData}, ShAll K J xs ds → ds.all flatD = true → xs.all flatV = true
  | _, _, .nil, _ => rfl
  | _, _, .cons h g, hd => by
    rw [List.all_cons, Bool.and_eq_true] at hd
    rw [List.all_cons, sh_flat h hd.1, shs_flat g hd.2]; rfl
theorem eqV_eqv {K : PySem.W.Frag} {J : Hp} {x y : V} {d e : PyData} (h : Sh K J x d) (g : Sh K J y e) (hd : flatD d = true) (he : flatD e = true) : eqV x y = PyData.eqv d e := by
  cases h <;> first | exact absurd hd Bool.false_ne_true | (cases g <;> first | exact absurd he Bool.false_ne_true | rfl | (simp [eqV, PyData.eqv]))
theorem inV_flat {K : PySem.W.Frag} {H J : Hp} {v : V} {d : PyData} (h : Vw K H J v d) (hd : flatD d = true) : ∀ {xs : List V} {ds : List PyData}, ShAll K J xs ds → ds.all flatD = true → inV v xs = inD d ds
  | _, _, .nil, _ => rfl
  | _, _, .cons a g, he => by
    rw [List.all_cons, Bool.and_eq_true] at he
    have ih := inV_flat h hd g he.2
    unfold inV inD at *
    rw [List.any_cons, List.any_cons, ih, eqV_eqv a (h.shF hd) he.1 hd]
theorem shs_allInt {K : PySem.W.Frag} {J : Hp} : ∀ {xs : List V} {ds : List PyData}, ShAll K J xs ds → ds.all isIntD = true → ∀ {us : List Value}, Vals xs us → ∀ u ∈ us, ∃ i t, u = .int i t
  | _, _, .nil, _, _, .nil, u, hu => by cases hu
  | _, _, .cons h g, hd, _, .cons r t, u, hu => by
    rw [List.all_cons, Bool.and_eq_true] at hd
    rcases List.mem_cons.mp hu with rfl | hu
    · cases h with
      | int i => obtain ⟨t, rfl⟩ := r; exact ⟨_, _, rfl⟩
      | _ => exact absurd hd.1 Bool.false_ne_true
    · exact shs_allInt g hd.2 t u hu
theorem Vw.dctAt {X : Cx} {pins : List (Addr × Obj)} {sg : St} {H J : Hp} {s : Shared} {v : V} {d : PyData} (I : Inv X pins sg H s) (sm : Same J H) (h : Vw X.K H J v d) (hd : isDctD d = true) : ∃ l es n o, v = .ref l ∧ s.heap.get? l = some o ∧ o.cls = .type "dict" ∧ o.data = .dict es n := by
  unfold isDctD at hd
  split at hd
  · obtain ⟨l, ho, rfl, ha, hr⟩ := h.dict sm
    rename_i t kvs
    cases t with
    | false =>
      obtain ⟨ks, rfl, _, _⟩ := hr
      obtain ⟨_, _, vs, _, ob, es, ep, e, c, c2, _⟩ := (show ObjOk X.prog X.w H s.heap l (.dK ks) from ha.ok I.hok)
      exact ⟨l, _, _, ob, rfl, e, c.1, c2⟩
    | true =>
      obtain ⟨ks, rfl, _, _⟩ := hr
      obtain ⟨_, _, vs, _, ob, es, ep, e, c, c2, _⟩ := (show ObjOk X.prog X.w H s.heap l (.dT ks) from ha.ok I.hok)
      exact ⟨l, _, _, ob, rfl, e, c.1, c2⟩
  · cases hd
theorem sgnD_of {z : Str} {c : Nat} (h : sgnD z = some c) : z = ⟨#[c]⟩ := by
  unfold sgnD at h
  split at h
  · rename_i k e
    cases h
    exact Str.ext' (Array.toList_inj.mp e)
  · cases h
theorem pm_in (hu : X.A.units + 65 < cLine) : OpR X (compareOp .In) (rPrim2 X.K .in_) := by
  intro pins s sg H x y v u Q I rx ry h
  obtain ⟨J, ds, t, sm, vw, hp, q⟩ := h
  have hp : pIn ds = some t := hp
  unfold pIn at hp
  split at hp
  · obtain ⟨a, b⟩ := vw.two'
    split at hp
    · rename_i hk
      cases hp
      obtain ⟨l, ho, rfl, ha, ga⟩ := b.dict sm
      obtain ⟨o, hg, ho2⟩ := ga.get sm ha (a.key sm hk)
      refine op_dget_in (by omega) pins s sg H _ _ v u Q I rx ry ⟨l, o, rfl, hg, ?_⟩
      rw [isSome_of ho2]
      exact q.val sm (.bl _)
    · cases hp
  · obtain ⟨a, b⟩ := vw.two'
    split at hp
    · rename_i hz
      cases hp
      simp only [Bool.and_eq_true] at hz
      exact op_inD hu pins s sg H x y v u Q I rx ry ⟨_, _, a.dp sm (shp_lay hz.1), b.dp sm (shp_lay hz.2), hz.1, hz.2, q.val sm (.bl _)⟩
    · split at hp
      · rename_i hz
        cases hp
        simp only [Bool.and_eq_true] at hz
        obtain ⟨p, xs, rfl, ha, ga⟩ := b.list sm
        refine op_in_seq pins s sg H x _ v u Q I rx ry ⟨p, xs, rfl, .inl (.of ha), a.flat hz.1, shs_flat ga hz.2, ?_⟩
        simp only [Bool.false_eq_true, if_false, inV_flat a hz.1 ga hz.2]
        exact q.val sm (.bl _)
      · cases hp
  · obtain ⟨a, b⟩ := vw.two'
    split at hp
    · rename_i hz
      cases hp
      simp only [Bool.and_eq_true] at hz
      obtain ⟨as, r1⟩ := Dp.reads I _ x v (a.dp sm (shp_lay hz.1)) rx
      obtain ⟨bs, r2⟩ := Dp.reads I _ y u (b.dp sm (shp_lay hz.2)) ry
      exact SeqAt.in_tuple_reads r2 r1 (SeqAt.canLay_of_shaped hz.2) (SeqAt.canLay_of_shaped hz.1) (PyProof.Rows.room_in_shaped hz.1 hu) ⟨.bl _, H, I, rfl, q.val sm (.bl _)⟩
    · split at hp
      · rename_i hz
        cases hp
        simp only [Bool.and_eq_true] at hz
        obtain ⟨l, es, n, o, rfl, hg, hc, hd⟩ := Vw.dctAt I sm a hz.1
        obtain ⟨p, xs, rfl, _, ha, hsh⟩ := b.tuple sm
        cases rx
        cases ry
        obtain ⟨its, r, pl, hzz⟩ := I.tuple (.of ha)
        refine SeqAt.in_tupleAt (fun _ => false) pl (fun w hw => ?_) ⟨.bl _, H, I, rfl, ?_⟩
        · obtain ⟨i, t, rfl⟩ := shs_allInt hsh hz.2 r w (by simpa using hw)
          exact eqAt_int_dict i t hg hc hd (by show X.A.units + 1 < cLine; omega)
        · rw [show its.toArray.any (fun _ => false) = false by simp]
          exact q.val sm (.bl _)
      · cases hp
  · obtain ⟨a, b⟩ := vw.two'
    obtain ⟨c, hc, rfl⟩ := Option.map_eq_some_iff.mp hp
    exact op_in_sign pins s sg H x y v u Q I rx ry ⟨c, _, by rw [a.str, sgnD_of hc], b.str, q.val sm (.bl _)⟩
  · cases hp
theorem pm_notin (hu : X.A.units + 65 < cLine) : OpR X (compareOp .NotIn) (rPrim2 X.K .notin) := by
  intro pins s sg H x y v u Q I rx ry h
  obtain ⟨J, ds, t, sm, vw, hp, q⟩ := h
  have hp : pNotin ds = some t := hp
  unfold pNotin at hp
  split at hp
  · obtain ⟨a, b⟩ := vw.two'
    split at hp
    · rename_i hk
      cases hp
      obtain ⟨l, ho, rfl, ha, ga⟩ := b.dict sm
      obtain ⟨o, hg, ho2⟩ := ga.get sm ha (a.key sm hk)
      refine op_dget_notin (by omega) pins s sg H _ _ v u Q I rx ry ⟨l, o, rfl, hg, ?_⟩
      rw [isSome_of ho2]
      exact q.val sm (.bl _)
    · cases hp
  · obtain ⟨a, b⟩ := vw.two'
    split at hp
    · rename_i hz
      cases hp
      simp only [Bool.and_eq_true] at hz
      exact op_notInD hu pins s sg H x y v u Q I rx ry ⟨_, _, a.dp sm (shp_lay hz.1), b.dp sm (shp_lay hz.2), hz.1, hz.2, q.val sm (.bl _)⟩
    · split at hp
      · rename_i hz
        cases hp
        simp only [Bool.and_eq_true] at hz
        obtain ⟨p, xs, rfl, ha, ga⟩ := b.list sm
        refine op_notIn_seq pins s sg H x _ v u Q I rx ry ⟨p, xs, rfl, .inl (.of ha), a.flat hz.1, shs_flat ga hz.2, ?_⟩
        simp only [if_true, inV_flat a hz.1 ga hz.2]
        exact q.val sm (.bl _)
      · cases hp
  · obtain ⟨a, b⟩ := vw.two'
    split at hp
    · rename_i hz
      cases hp
      simp only [Bool.and_eq_true] at hz
      obtain ⟨as, r1⟩ := Dp.reads I _ x v (a.dp sm (shp_lay hz.1)) rx
      obtain ⟨bs, r2⟩ := Dp.reads I _ y u (b.dp sm (shp_lay hz.2)) ry
      exact SeqAt.notIn_tuple_reads r2 r1 (SeqAt.canLay_of_shaped hz.2) (SeqAt.canLay_of_shaped hz.1) (PyProof.Rows.room_in_shaped hz.1 hu) ⟨.bl _, H, I, rfl, q.val sm (.bl _)⟩
    · cases hp
  · obtain ⟨a, b⟩ := vw.two'
    obtain ⟨c, hc, rfl⟩ := Option.map_eq_some_iff.mp hp
    exact op_notIn_sign pins s sg H x y v u Q I rx ry ⟨c, _, by rw [a.str, sgnD_of hc], b.str, q.val sm (.bl _)⟩
  · cases hp
theorem boolsD_eq : ∀ {ds : List PyData} {bs : List Bool}, boolsD ds = some bs → ds = bs.map PyData.bool
  | [], ns, h => by simp only [boolsD] at h; cases h; rfl
  | .bool i :: ds, ns, h => by
    simp only [boolsD] at h
    obtain ⟨ms, hm, rfl⟩ := Option.map_eq_some_iff.mp h
    rw [boolsD_eq hm]; rfl
  | .none :: ds, ns, h => by simp [boolsD] at h
  | .int _ :: ds, ns, h => by simp [boolsD] at h
  | .str _ :: ds, ns, h => by simp [boolsD] at h
  | .list _ :: ds, ns, h => by simp [boolsD] at h
  | .tuple _ :: ds, ns, h => by simp [boolsD] at h
  | .dict _ :: ds, ns, h => by simp [boolsD] at h
theorem shs_bools {K : PySem.W.Frag} {J : Hp} : ∀ {bs : List Bool} {xs : List V}, ShAll K J xs (bs.map PyData.bool) → xs = bs.map V.bl
  | [], _, h => by cases h; rfl
  | b :: bs, _, h => by
    cases h with
    | cons a t => cases a; rw [shs_bools t]; rfl
theorem pm_all (hc : X.calm = true) : CallR X (.builtin "all") (rPrim X.K .all_) := by
  intro pins s sg H vs us Q I rv h
  obtain ⟨J, ds, t, sm, vw, hp, q⟩ := h
  have hp : pAll ds = some t := hp
  unfold pAll at hp
  split at hp
  · obtain ⟨bs, hb, rfl⟩ := Option.map_eq_some_iff.mp hp
    obtain ⟨v, rfl, a⟩ := vw.one
    obtain ⟨l, xs, rfl, ha, ga⟩ := a.list sm
    rw [boolsD_eq hb] at ga
    have ex := shs_bools ga
    subst ex
    exact cr_all hc pins s sg H _ us Q I rv ⟨l, bs, rfl, .of ha, q.val sm (.bl _)⟩
  · cases hp
theorem pm_any (hc : X.calm = true) : CallR X (.builtin "any") (rPrim X.K .any_) := by
  intro pins s sg H vs us Q I rv h
  obtain ⟨J, ds, t, sm, vw, hp, q⟩ := h
  have hp : pAny ds = some t := hp
  unfold pAny at hp
  split at hp
  · obtain ⟨bs, hb, rfl⟩ := Option.map_eq_some_iff.mp hp
    obtain ⟨v, rfl, a⟩ := vw.one
    obtain ⟨l, xs, rfl, ha, ga⟩ := a.list sm
    rw [boolsD_eq hb] at ga
    have ex := shs_bools ga
    subst ex
    exact cr_any hc pins s sg H _ us Q I rv ⟨l, bs, rfl, .of ha, q.val sm (.bl _)⟩
  · cases hp
theorem pm_list : CallR X (.type "list") (rPrim X.K .list_) := by
  intro pins s sg H vs us Q I rv h
  obtain ⟨J, ds, t, sm, vw, hp, q⟩ := h
  have hp : pList ds = some t := hp
  unfold pList at hp
  split at hp
  · cases hp
    obtain ⟨v, rfl, a⟩ := vw.one
    obtain ⟨l, xs, rfl, ha, ga⟩ := a.list sm
    exact call_list_of pins s sg H _ us Q I rv ⟨l, xs, rfl, .inl (.of ha), fun p hp => q.lst sm hp ga⟩
  · cases hp
    obtain ⟨v, rfl, a⟩ := vw.one
    obtain ⟨l, xs, rfl, _, ha, ga⟩ := a.tuple sm
    exact call_list_of pins s sg H _ us Q I rv ⟨l, xs, rfl, .inr (.of ha), fun p hp => q.lst sm hp ga⟩
  · cases hp
theorem pm_tuple : CallR X (.type "tuple") (rPrim X.K .tuple_) := by
  intro pins s sg H vs us Q I rv h
  obtain ⟨J, ds, t, sm, vw, hp, q⟩ := h
  have hp : pTuple ds = some t := hp
  unfold pTuple at hp
  split at hp
  · cases hp
    obtain ⟨v, rfl, a⟩ := vw.one
    obtain ⟨l, xs, rfl, ha, ga⟩ := a.list sm
    exact call_tuple_of pins s sg H _ us Q I rv ⟨l, xs, rfl, .inl ⟨.of ha, fun p hp => q.tup sm hp ga⟩⟩
  · cases hp
    obtain ⟨v, rfl, a⟩ := vw.one
    obtain ⟨l, xs, rfl, ja, ha, ga⟩ := a.tuple sm
    exact call_tuple_of pins s sg H _ us Q I rv ⟨l, xs, rfl, .inr ⟨.of ha, q.val sm (.tup ja ga)⟩⟩
  · cases hp
theorem pm_int : CallR X (.type "int") (rPrim X.K .int_) := by
  intro pins s sg H vs us Q I rv h
  obtain ⟨J, ds, t, sm, vw, hp, q⟩ := h
  have hp : pInt ds = some t := hp
  unfold pInt at hp
  split at hp
  · cases hp
    obtain ⟨v, rfl, a⟩ := vw.one
    rw [a.int] at rv
    exact call_int1 pins s sg H _ us Q I rv (.inl ⟨_, rfl, q.val sm (.int _)⟩)
  · cases hp
    obtain ⟨v, rfl, a⟩ := vw.one
    rw [a.bl] at rv
    exact call_int1 pins s sg H _ us Q I rv (.inr ⟨_, rfl, q.val sm (.int _)⟩)
  · split at hp
    · rename_i hz
      obtain ⟨n, hn, rfl⟩ := Option.map_eq_some_iff.mp hp
      obtain ⟨v, rfl, a⟩ := vw.one
      rw [a.str] at rv
      exact call_int_str pins s sg H _ us Q I rv ⟨_, n, rfl, hn, of_decide_eq_true hz, q.val sm (.int _)⟩
    · cases hp
  · cases hp
end
end Ev
end

section
set_option Elab.async false
set_option linter.all false
set_option maxRecDepth 100000
set_option maxHeartbeats 4000000
set_option backward.match.sparseCases false
namespace Ev
open PySem L2
variable [Errs]

structure Tx where
  names : List Str
  consts : List (Str × PyData)
  clss : List (Str × List Nat) := []
  excs : List (Str × Nat × String) := []
  mks : List (Str × Nat × Nat) := []
  mts : List (Nat × Str × Nat) := []
  flds : List (Nat × Str) := []
  cm : Bool := true
structure Prg where
  tx : Tx

def cstIs : Const → PyData → Bool
  | .none, .none => true
  | .bool a, .bool b => a == b
  | .int a, .int b => decide (a = b)
  | .str a, .str b => decide (a = b)
  | _, _ => false

section
variable (P : Tx) (N : List Str)
def isV (sc : Scope) (i : Nat) (x : Str) : Bool :=
  decide (N[i]? = some x) && (match sc.names.lookup x with | some .local => true | some .cell => true | some .free => true | _ => false) && !(x == ("__debug__" : Str)) && !(x == ("__classdict__" : Str))
def isL (sc : Scope) (fb : Str → Bool) (i : Nat) (x : Str) : Bool :=
  decide (N[i]? = some x) && (match sc.names.lookup x with | some .local => true | some .cell => fb x | _ => false)
def isG (sc : Scope) (x : Str) : Bool := (match sc.names.lookup x with | some .globalImplicit => true | _ => false) && !(x == ("__debug__" : Str))

mutual
def okT (sc : Scope) (fb : Str → Bool) : CT → Expr → Bool
  | .name i, .Name x _ => isL N sc fb i x
  | .tup ts, .Tuple l _ _ => okTs sc fb ts l
  | _, _ => false
def okTs (sc : Scope) (fb : Str → Bool) : CTs → List Expr → Bool
  | .nil, [] => true
  | .cons t ts, e :: l => okT sc fb t e && okTs sc fb ts l
  | _, _ => false
end
mutual
def slotsT : CT → List Nat
  | .name i => [i]
  | .tup ts => slotsTs ts
def slotsTs : CTs → List Nat
  | .nil => []
  | .cons t ts => slotsT t ++ slotsTs ts
end

def tyOk (t : String) : Bool := t == "int" || t == "bool" || t == "str" || t == "list" || t == "tuple" || t == "dict"
def bname : Op → Option Str
  | .len => some "len" | .max2 => some "max" | .min2 => some "min" | .list_ => some "list" | .tuple_ => some "tuple" | .int_ => some "int" | .sorted => some "sorted" | .sum => some "sum" | .all_ => some "all" | .any_ => some "any" | .repr => some "repr" | .str_ => some "str" | .dict_ _ => some "dict" | .maxT => some "max"
  | _ => none
def binOf : Op → Option Operator
  | .add => some .Add | .sub => some .Sub | .mul => some .Mult | .fdiv => some .FloorDiv | .mod => some .Mod | .pow => some .Pow | .shl => some .LShift | .shr => some .RShift | .bor => some .BitOr | .band => some .BitAnd
  | _ => none
def cmpOf : Op → Option CmpOp
  | .eq => some .Eq | .ne => some .NotEq | .lt => some .Lt | .le => some .LtE | .gt => some .Gt | .ge => some .GtE | .is_ => some .Is | .isnot => some .IsNot | .in_ => some .In | .notin => some .NotIn
  | _ => none
def isSlice : Expr → Bool
  | .Slice _ _ _ _ => true
  | _ => false
def isSet : Expr → Bool
  | .Set _ _ _ => true
  | _ => false
def isTup : Expr → Bool
  | .Tuple _ _ _ => true
  | _ => false
def isStar : Expr → Bool
  | .Starred _ _ => true
  | _ => false
def isLc : Expr → Bool
  | .ListComp _ _ _ _ => true
  | .SetComp _ _ _ _ => true
  | .DictComp _ _ _ _ _ => true
  | _ => false
def isiOf : Op → Option String
  | .isi t => some t
  | _ => none
def nameOf : Expr → Option Str
  | .Name x _ => some x
  | _ => none
def isiForm (sc : Scope) (o : Op) (x : Str) (a : Expr) (as : List Expr) : Option (List Expr) :=
  match isiOf o with
  | some t => if decide (x = "isinstance") && decide (as.map nameOf = [some (Str.ofString t)]) && isG sc x && isG sc (Str.ofString t) && tyOk t then some [a] else none
  | none => none
def badE : Expr → Bool
  | .Starred _ _ => true
  | .Set _ _ _ => true
  | .SetComp _ _ _ _ => true
  | .DictComp _ _ _ _ _ => true
  | _ => false
def slForm (o : Op) (a b : Expr) : Option (List Expr) := match o, b with
  | .sl true false, .Slice (some x) none none _ => some [a, x]
  | .sl false true, .Slice none (some y) none _ => some [a, y]
  | .rev, .Slice none none (some (.UnaryOp .USub (.Constant (.int 1) _ _) _)) _ => some [a]
  | _, _ => none
def noDCb : Expr → Bool
  | .DictComp _ _ _ _ _ => false
  | .SetComp _ _ _ _ => false
  | _ => true
def quietO : Op → Bool
  | .max2 => false | .min2 => false | .sorted => false | .sum => false | .all_ => false | .any_ => false | .dict_ _ => false | .maxT => false
  | _ => true
def opForm (sc : Scope) (o : Op) : Expr → Option (List Expr)
  | .BinOp a op b _ => if binOf o = some op then some [a, b] else none
  | .Compare a [op] [b] _ => if cmpOf o = some op && !isSet b then some [a, b] else none
  | .UnaryOp .USub a _ => if o = .neg then some [a] else none
  | .Subscript a b _ => if o = .item && !isSlice b then some [a, b] else slForm o a b
  | .Call (.Name x _) (a :: as) [] _ => if (isiOf o).isSome then isiForm sc o x a as else if bname o = some x && isG sc x then some (a :: as) else none
  | _ => none

def mthd (m : Str) (i : Nat) (sc : Scope) : Expr → Option Expr
  | .Call (.Attribute (.Name x _) a ap) [e] [] cp => if decide (a = m) && isV N sc i x && !isStar e && (ap.endLine == cp.line) then some e else none
  | _ => none

def isCall : Expr → Bool
  | .Call _ _ _ _ => true
  | _ => false
def clsAll (sc : Scope) : List Expr → Option (List Nat)
  | [] => some []
  | .Name x _ :: l => if isG sc x = true then (match P.clss.lookup x, clsAll sc l with
    | some a, some b => some (a ++ b)
    | _, _ => none) else none
  | _ => none
def clsForm (sc : Scope) (cs : List Nat) : Expr → Bool
  | .Name x _ => isG sc x && decide (P.clss.lookup x = some cs)
  | .Tuple l _ _ => decide (clsAll P sc l = some cs) && decide (l.length ≤ 100)
  | _ => false
mutual
def okE (sc : Scope) : CE → Expr → Bool
  | .var i, ee => (match ee with
    | .Name x _ => isV N sc i x
    | _ => false)
  | .ref i, ee => (match ee with
    | .Name x _ => isV N sc i x
    | _ => false)
  | .shr i, ee => (match ee with
    | .Name x _ => isV N sc i x
    | _ => false)
  | .dnew _, ee => (match ee with
    | .Dict [] [] _ => true
    | _ => false)
  | .own c, e => okE sc c e && !badE e
  | .pop i c, e => (match mthd N "pop" i sc e with | some x => okE sc c x | none => false)
  | .cst d, ee => (match ee with
    | .Constant c _ _ => cstIs c d
    | _ => false)
  | .glob y d, ee => (match ee with
    | .Name x _ => decide (x = y) && isG sc x && (match P.consts.lookup x with | some (.int j) => cstIs (.int j) d | some (.str j) => cstIs (.str j) d | _ => false)
    | _ => false)
  | .op o es, e => (match opForm sc o e with | some l => okEs sc es l && (P.cm || quietO o) | none => false)
  | .xop (.isc cs) (.cons c .nil), ee => (match ee with
    | .Call (.Name x _) [a, k] [] _ => decide (x = "isinstance") && isG sc x && okE sc c a && clsForm P sc cs k
    | _ => false)
  | .xop (.fld f) (.cons c .nil), ee => (match ee with
    | .Attribute a n _ => decide (n = Str.ofString f) && okE sc c a && !isCall a && decide (f ∈ ["at", "part"])
    | _ => false)
  | .xop .maxd (.cons c .nil), _ => false
  | .xop .lrng (.cons c .nil), _ => false
  | .xop .lset (.cons c .nil), _ => false
  | .xop .sset (.cons c .nil), _ => false
  | .xop .trng (.cons c .nil), _ => false
  | .xop .trng (.cons c (.cons d .nil)), _ => false
  | .xop .and0 (.cons c .nil), _ => false
  | .xop .lzip (.cons c (.cons d .nil)), _ => false
  | .xop .or0 (.cons c .nil), _ => false
  | .xop .lrng2 (.cons c (.cons d .nil)), _ => false
  | .xop .vals (.cons c .nil), _ => false
  | .xop .rev2 (.cons c .nil), _ => false
  | .xop .joi (.cons (.cst (.str z)) (.cons d .nil)), _ => false
  | .xop _ _, _ => false
  | .dsp true c d, _ => false
  | .dsp false c d, _ => false
  | .meth .get i (.cons c .nil), _ => false
  | .meth .get i (.cons c (.cons d .nil)), _ => false
  | .meth .idx i (.cons c .nil), _ => false
  | .meth .spl i (.cons c .nil), _ => false
  | .meth .joi i (.cons c .nil), _ => false
  | .meth .stw i (.cons c .nil), _ => false
  | .meth _ _ _, _ => false
  | .pop0 i, _ => false
  | .xnew c f a, _ => false
  | .sl2 a b c, _ => false
  | .tup es, ee => (match ee with
    | .Tuple l _ _ => okEs sc es l && decide (es.len ≤ 1000)
    | _ => false)
  | .lst es, ee => (match ee with
    | .List l _ => okEs sc es l && decide (es.len ≤ 1000)
    | _ => false)
  | .not a, ee => (match ee with
    | .UnaryOp .Not e _ => okE sc a e
    | _ => false)
  | .and a b, ee => (match ee with
    | .BoolOp .And [x, y] _ => okE sc a x && okE sc b y
    | .BoolOp .And (x :: y :: z :: l) p => okE sc a x && okE sc b (.BoolOp .And (y :: z :: l) p)
    | _ => false)
  | .or a b, ee => (match ee with
    | .BoolOp .Or [x, y] _ => okE sc a x && okE sc b y
    | .BoolOp .Or (x :: y :: z :: l) p => okE sc a x && okE sc b (.BoolOp .Or (y :: z :: l) p)
    | _ => false)
  | .chain o p a b c, ee => (match ee with
    | .Compare x [o1, o2] [y, z] _ => decide (cmpOf o = some o1) && decide (cmpOf p = some o2) && !isSet z && !isSet y && okE sc a x && okE sc b y && okE sc c z
    | _ => false)
  | .chain3 o p q a b c d, _ => false
  | .lc elt tg it cond own, ee => (match ee with
    | .ListComp e [⟨t, i, ifs, 0⟩] scope _ => P.cm && blkC N sc scope own && okT N (relS scope sc) (fun x => scope.names.lookup x == some .cell) tg t && okI sc t it i && okEs (relS scope sc) cond ifs && okE (relS scope sc) elt e
      && (slotsT tg).all fun j => decide (j ∈ own.map (·.2))
    | _ => false)
  | .mk c f .nil, _ => false
  | .mk c f (.cons c0 cs0), _ => false
  | .mcall c m f a .nil, _ => false
  | .mcall c m f a (.cons c0 cs0), _ => false
  | .fld c i f, ee => (match ee with
    | .Attribute (.Name x _) n _ => decide (n = f) && isV N sc i x && decide ((c, f) ∈ P.flds)
    | _ => false)
  | .opf .len c i f, _ => false
  | .opf _ _ _ _, _ => false
  | .call f .nil, ee => (match ee with
    | .Call (.Name x _) [] [] _ => decide (P.names[f]? = some x) && isG sc x && P.cm
    | _ => false)
  | .call f (.cons c0 cs0), ee => (match ee with
    | .Call (.Name x _) (a :: as) [] _ => decide (P.names[f]? = some x) && isG sc x && okEs sc (.cons c0 cs0) (a :: as) && P.cm
    | _ => false)
  | .ll0 n, _ => false
  | .ddn, _ => false
  | .fnc k, _ => false
  | .nn b i, _ => false
  | .snd i, _ => false
  | .tlFst i, _ => false
  | .tlPop0 i, _ => false
  | .callV i .nil, _ => false
  | .callV i (.cons c0 cs0), _ => false
  | .callT f .nil, _ => false
  | .callT f (.cons c0 cs0), _ => false
  | .callB f .nil, _ => false
  | .callB f (.cons c0 cs0), _ => false
  | .get0 i k, _ => false
  | .callF f .nil, _ => false
  | .callF f (.cons c0 cs0), _ => false
def okEs (sc : Scope) : CEs → List Expr → Bool
  | .nil, [] => true
  | .cons c cs, e :: l => okE sc c e && okEs sc cs l
  | _, _ => false
def okI (sc : Scope) (tg : Expr) : CI → Expr → Bool
  | .seq c, e => okE sc c e && !isSet e
  | .rng1 c, ee => (match ee with
    | .Call (.Name x _) [a] [] _ => decide (x = "range") && isG sc x && okE sc c a
    | _ => false)
  | .rng2 c d, ee => (match ee with
    | .Call (.Name x _) [a, b] [] _ => decide (x = "range") && isG sc x && okE sc c a && okE sc d b
    | _ => false)
  | .rng3 c d f, ee => (match ee with
    | .Call (.Name x _) [a, b, k] [] _ => decide (x = "range") && isG sc x && okE sc c a && okE sc d b && okE sc f k
    | _ => false)
  | .prs true es, ee => (match ee with
    | .Call (.Name x _) [a, b] [] _ => decide (x = "zip") && isG sc x && isTup tg && okEs sc es [a, b]
    | _ => false)
  | .prs false es, ee => (match ee with
    | .Call (.Name x _) [a] [] _ => decide (x = "enumerate") && isG sc x && isTup tg && okEs sc es [a]
    | _ => false)
  | .its c, ee => (match ee with
    | .Call (.Attribute a m ap) [] [] cp => decide (m = "items") && okE sc c a && isTup tg && (ap.endLine == cp.line) && !isCall a
    | _ => false)
end
def swB (sc : Scope) : Expr → Str → Pos → Bool
  | .ListComp _ _ s p, t, py => decide (sc.names.lookup t = some .local) && py.line == p.line && !(s.names.any fun (n, k) => n == t && (k == .local || k == .cell))
  | _, _, _ => false

mutual
/-- the slots that a statement stores to -/
def asgd : CS → List Nat
  | .set t _ => slotsT t
  | .setLc i _ => [i]
  | .move i _ => [i]
  | .aug i _ _ => [i]
  | .setP y z _ => [y, z]
  | .par i j _ _ => [i, j]
  | .ite _ a b => asgds a ++ asgds b
  | .for_ t _ b => slotsT t ++ asgds b
  | .while_ _ b => asgds b
  | .try_ b _ i x => asgds b ++ [i, x]
  | .tryS b _ i s => asgds b ++ i :: asgds s
  | .forD t _ b => slotsT t ++ asgds b
  | .forF _ t _ _ b => slotsT t ++ asgds b
  | _ => []
def asgds : CSs → List Nat
  | .nil => []
  | .cons s ss => asgd s ++ asgds ss
  | .sub _ j _ ss => j :: asgds ss
end
def lockEs : CEs → List Nat
  | .nil => []
  | .cons (.var i) es => i :: lockEs es
  | .cons _ es => lockEs es
def lockI : CI → List Nat
  | .seq (.var i) => [i]
  | .prs _ es => lockEs es
  | _ => []
def isNC : CE → Bool
  | .cst .none => true
  | _ => false
mutual
def okS (P : Tx) (N : List Str) (sc : Scope) (fb : Str → Bool) : CS → Stmt → Bool
  | .set (.name i) c, ee => (match ee with
    | .Assign [.Name x py] e _ => isL N sc fb i x && okE P N sc c e && !swB sc e x py && noDCb e
    | _ => false)
  | .set (.tup ts) c, ee => (match ee with
    | .Assign [.Tuple l k p] e _ => okT N sc fb (.tup ts) (.Tuple l k p) && okE P N sc c e && (match e with | .Tuple vs _ _ => vs.all (foldedForSure 8) | _ => true) && P.cm && noDCb e
    | _ => false)
  | .retP i j, _ => false
  | .setP y z c, _ => false
  | .par i j c d, _ => false
  | .setLc i (.lc elt tg it cond own), ee => (match ee with
    | .Assign [.Name x py] e _ => decide (N[i]? = some x) && decide (sc.names.lookup x = some .local) && okE P N sc (.lc elt tg it cond own) e && swB sc e x py && noDCb e
    | _ => false)
  | .setLc _ _, _ => false
  | .move i j, ee => (match ee with
    | .Assign [.Name x py] (.Name y _) _ => isL N sc fb i x && isV N sc j y && decide (i ≠ j)
    | _ => false)
  | .aug i o c, _ => false
  | .ite c a b, ee => (match ee with
    | .If e l m _ => okE P N sc c e && okSs P N sc fb a l && okSs P N sc fb b m
    | _ => false)
  | .for_ t it b, ee => (match ee with
    | .For tg e l [] _ => P.cm && okT N sc fb t tg && okI P N sc tg it e && okSs P N sc fb b l && (lockI it).all fun i => decide (i ∉ slotsT t ++ asgds b)
    | _ => false)
  | .forD t i b, _ => false
  | .fput c i f e, _ => false
  | .fapp c i f e, _ => false
  | .appL i k e, _ => false
  | .forF c t i f b, _ => false
  | .while_ c b, _ => false
  | .ret c, ee => (match ee with
    | .Return (some e) _ => okE P N sc c e
    | .Return none _ => isNC c
    | _ => false)
  | .expr c, ee => (match ee with
    | .Expr e _ => okE P N sc c e && !isLc e
    | _ => false)
  | .append i c, ee => (match ee with
    | .Expr e _ => (match mthd N "append" i sc e with | some x => okE P N sc c x | none => false)
    | _ => false)
  | .extend i c, ee => (match ee with
    | .Expr e _ => (match mthd N "extend" i sc e with | some x => okE P N sc c x | none => false)
    | _ => false)
  | .setItem i k c, ee => (match ee with
    | .Assign [.Subscript (.Name x _) s _] e _ => isV N sc i x && okE P N sc k s && okE P N sc c e && !isSlice s
    | _ => false)
  | .rem i c, _ => false
  | .rev_ i, _ => false
  | .setdef i k c, _ => false
  | .tlApp i c, _ => false
  | .tlRev i, _ => false
  | .tlClr i, _ => false
  | .pass, _ => false
  | .raise_ c f .nil, ee => (match ee with
    | .Raise (some (.Call (.Name x _) [.Constant (.str _) _ _] [] _)) none _ => isG sc x && decide (P.excs.lookup x = some (c, "")) && decide (f = "") && P.cm
    | _ => false)
  | .raise_ c f (.cons e .nil), ee => (match ee with
    | .Raise (some (.Call (.Name x _) [a] [] _)) none _ => isG sc x && decide (P.excs.lookup x = some (c, f)) && decide (f ≠ "") && okE P N sc e a && P.cm
    | _ => false)
  | .raise_ _ _ _, _ => false
  | .try_ b cs i y, _ => false
  | .tryS b cs i ss, ee => (match ee with
    | .Try l [.ExceptHandler (some (.Name x _)) (some n) (s0 :: su) _] [] [] _ => okSs P N sc fb b l && isG sc x && decide (P.clss.lookup x = some cs) && decide (N[i]? = some n) && decide (sc.names.lookup n = some .local) && okSs { P with cm := false } N sc fb ss (s0 :: su) && decide (i ∉ asgds ss)
    | _ => false)
def okSs (P : Tx) (N : List Str) (sc : Scope) (fb : Str → Bool) : CSs → List Stmt → Bool
  | .nil, [] => true
  | .cons s ss, x :: l => okS P N sc fb s x && okSs P N sc fb ss l
  | _, _ => false
end
end
end Ev
end

section
set_option Elab.async false
set_option linter.all false
set_option maxRecDepth 100000
set_option maxHeartbeats 4000000
namespace PySem.W
open PySem.Calls PyProof.Rows
section
variable {prog : Program} {w : World} {A : Around} {E : Value → Shared → Prop} {s : Shared} {K : Frag} {x D : Addr} {ox od : Obj}
theorem class_of_err {Q : Option Value → Shared → Prop} (C : L2.ExcC K D) (X : K.In s.heap) (I : InstAt s.heap x ox D (some od)) (h : Q (some (.ref D)) { s with toks := s.toks + 1 }) :
    wpAny (model prog w) A (getAttr? (.ref x) "__class__") Q E s := by
  have isC : (clsIn K D).isSome = true := by
    obtain ⟨cd, e, _⟩ := any_some C.hd
    rw [e]; rfl
  have found := findObj_data (od := od) isC C.ha C.hn C.ht
  obtain ⟨hp, gs, dr, tk, so⟩ := s
  have l0 := I.type (M := model prog w)
  have l1 := looks_findIn (M := model prog w) X C.hg
  have l2 := looks_findIn (M := model prog w) X C.hk
  have l3 := looks_find (M := model prog w) X I found
  have isB : Looks (model prog w) hp (isInstance (.ref x) (.type "BaseException")) true := l0.andThen (looks_subIn X C.hs)
  have n2 : (Value.builtin "BaseException.__getattribute__" == Value.builtin "object.__getattribute__") = false := by decide +kernel
  have n1 : (onTheHeap (Value.ref D) && Value.builtin "BaseException.__getattribute__" == Value.builtin "object.__getattribute__") = false := by rw [n2]; rfl
  have n0 : (false && onTheHeap (Value.builtin "BaseException.__getattribute__")) = false := rfl
  unfold getAttr? getAttrBy? getAttrBy
  refine wpAny_bind (wpAny_mkText (wpAny_bind (wpAny_attempt (wpAny_holding (wpAny_bind (l0.at (wpAny_bind (l1.at ?_))))))))
  show wpAny _ _ (if (onTheHeap (Value.ref D) && Value.builtin "BaseException.__getattribute__" == Value.builtin "object.__getattribute__") = true then _ else _) _ _ _
  rw [n1, if_neg Bool.false_ne_true]
  unfold getAttrByItsOwn hookBefore
  refine wpAny_bind ?_
  rw [if_pos (show onTheHeap (Value.ref D) = true from rfl)]
  refine l2.at (wpAny_bind (wpAny_attempt (wpAny_holding ?_)))
  unfold callGetattribute
  rw [n0, if_neg Bool.false_ne_true]
  unfold boundAndCalled
  rw [PySem.F.excAttr_ValueError.ga.bind (.ref x)]
  refine wpAny_bind (wpAny_pure ?_)
  show wpAny _ _ (call (.builtin "BaseException.__getattribute__") [.ref x, .str "__class__" tk]) _ _ _
  refine wpAny_call (codeAny_call_builtin PySem.F.excAttr_ValueError.ga.plain PySem.F.entry_bexc_ga ?_)
  refine @check_slot (model prog w) _ _ ⟨hp, gs, dr, tk + 1, so⟩ "BaseException.__getattribute__" "BaseException" "__getattribute__" (.ref x) [.str "__class__" tk] [] _ (by decide +kernel) (by decide +kernel) isB (PySem.F.args_bexc_ga (.ref x) (.str "__class__" tk)) ?_
  unfold Builtin.«object.__getattribute__»
  refine wpAny_bind (wpAny_of_eq (a := ((Value.ref x : Value), [Value.str "__class__" tk])) (by first | rfl | (simp only [slotArgs]; rfl)) ?_)
  refine wpAny_bind (wpAny_pure (wpAny_bind (l0.at (wpAny_bind (l3.at ?_)))))
  show wpAny _ _ (holding [Value.builtin "object.__class__"] (call (.builtin "getset_descriptor.__get__") [.builtin "object.__class__", .ref x, .ref D]) >>= ret) _ _ _
  refine wpAny_bind (wpAny_holding (wpAny_call (class_get (s := ⟨hp, gs, dr, tk + 1, so⟩) (ox := ox) (od := some od) X I C.hm (wpAny_pure ?_))))
  show wpAny _ _ (handedOut (.ref D)) _ _ _
  rw [handedOut_of (v := .ref D) rfl]
  first
    | exact wpAny_pure (wpAny_pure h)
    | exact wpAny_pure h
    | exact wpAny_pure (wpAny_bind (wpAny_pure (wpAny_pure h)))
theorem kitx_err {o : Option Obj} (C : L2.ExcC K D) : KitX K (.ref x) (.ref D) (fun h => InstAt h x ox D o) := by
  have z := handS_kitx_exc (x := x) (ox := ox) C.hg C.hk C.hs C.hd C.ha C.hn C.ht C.hm
  cases o with
  | none => exact z
  | some od => exact
    { ty := fun _ _ _ I => I.type
      it := fun M h X I => by
        obtain ⟨cd, e, _⟩ := any_some C.hd
        unfold clsIn at e
        split at e
        · rename_i c' d' cd' sl' ho
          intro A' Q' E' s' k q
          unfold isType loadHead
          exact wpAny_bind (wpAny_loadPart (k _ _ (X _ _ ho)) (wpAny_pure q))
        · cases e
      ne := z.ne
      ca := fun X I k => class_of_err C X I k }
end
end PySem.W
namespace Ev
open PySem L2 PySem.Spec PyProof.Rows
variable [Errs]
section
variable {X : Cx} {pins : List (Addr × Obj)} {sg : L2.St} {H J : Hp} {s : Shared}
theorem err_at (I : L2.Inv X pins sg H s) (sm : Same J H) {v : V} {c : Nat} {fs : List (PyData × PyData)} (h : Sh X.K J v (.dict ((.none, .int c) :: fs))) :
    ∃ a oe od, v = .ref a ∧ c ∈ Errs.has ∧ PySem.W.InstAt s.heap a oe (Errs.ca c) od := by
  generalize e : PyData.dict ((.none, .int c) :: fs) = z at h
  cases h with
  | exc0 hn h =>
    rename_i a c'
    simp only [PyData.dict.injEq, List.cons.injEq, Prod.mk.injEq, true_and, PyData.int.injEq, Int.natCast_inj] at e
    obtain ⟨rfl, rfl⟩ := e
    obtain ⟨⟨oe, vs, h1, h2, h3⟩, _⟩ := (show ObjOk X.prog X.w H s.heap a (XO _ _ _) from I.hok a _ (sm _ _ h))
    exact ⟨a, oe, none, rfl, hn, h1, h2.1, by unfold PySem.W.notCls; rw [h3], by rw [h2.2]; trivial⟩
  | exc1 hn h k g =>
    rename_i a dd c' f v' x
    simp only [PyData.dict.injEq, List.cons.injEq, Prod.mk.injEq, true_and, PyData.int.injEq, Int.natCast_inj] at e
    obtain ⟨rfl, _⟩ := e
    obtain ⟨⟨oe, vs, h1, h2, h3⟩, _⟩ := (show ObjOk X.prog X.w H s.heap a (XO _ _ _) from I.hok a _ (sm _ _ h))
    obtain ⟨mA, hns, hr⟩ := (show ObjOk X.prog X.w H s.heap dd (.xd _) from I.hok dd _ (sm _ _ k))
    obtain ⟨od, ho, hl⟩ := lookIn_ns hns
    exact ⟨a, oe, some od, rfl, hn, h1, h2.1, by unfold PySem.W.notCls; rw [h3], by rw [h2.2]; exact ho⟩
  | _ => simp at e
end
def tys : List String := ["NoneType", "bool", "int", "str", "list", "tuple"]
def ClsK (K : PySem.W.Frag) (cv : Value) (cs : List Nat) : Prop := (∀ c, c ∈ Errs.has → PySem.W.kitOne K (.ref (Errs.ca c)) cv = some (decide (c ∈ cs))) ∧ ∀ t ∈ tys, PySem.W.kitOne K (.type t) cv = some false
theorem any_cs (cs : List Nat) (c : Nat) : (cs.any fun k => decide ((k : Int) = (c : Int))) = decide (c ∈ cs) := by
  induction cs with
  | nil => rfl
  | cons a l ih =>
    rw [List.any_cons, ih]
    by_cases h : a = c
    · simp [h]
    · have h' : ¬ c = a := fun z => h z.symm
      simp [h, h', Int.natCast_inj]
theorem isc_kit {X : Cx} {pins : List (Addr × Obj)} {sg : L2.St} {H J : Hp} {s : Shared} {x : V} {u : Value} {cs : List Nat} {d : PyData} {t : Slot} (hx : ∀ c, c ∈ Errs.has → ExcC X.K (Errs.ca c)) (I : L2.Inv X pins sg H s) (rx : RelV x u) (sm : Same J H) (vw : Vw X.K H J x d) (hp : pIsc cs [d] = some t) :
    ∃ (ty : Value) (P : Heap → Prop) (b : Bool), t = .sh (.bool b) ∧ PySem.W.KitX X.K u ty P ∧ P s.heap ∧ u ≠ .builtin "__main__.__loader__#opaque" ∧ ((∃ t', t' ∈ tys ∧ ty = .type t' ∧ b = false) ∨ ∃ c, c ∈ Errs.has ∧ ty = .ref (Errs.ca c) ∧ b = decide (c ∈ cs)) := by
  have plain : ∀ {t' : String}, tyN d = t' → t' ∈ tys → t = .sh (.bool false) → TyX X.K H x (.type (tyN d)) → ∃ (ty : Value) (P : Heap → Prop) (b : Bool), t = .sh (.bool b) ∧ PySem.W.KitX X.K u ty P ∧ P s.heap ∧ u ≠ .builtin "__main__.__loader__#opaque" ∧ ((∃ t', t' ∈ tys ∧ ty = .type t' ∧ b = false) ∨ ∃ c, c ∈ Errs.has ∧ ty = .ref (Errs.ca c) ∧ b = decide (c ∈ cs)) := by
    intro t' e1 e2 e3 h
    obtain ⟨P, Z, p, hne⟩ := kit_of I rx h
    exact ⟨_, P, false, e3, Z, p, hne, .inl ⟨t', e2, by rw [e1], rfl⟩⟩
  have tyOf : ∀ {b : Bool} {n : String}, tyD d n = some b → tyN d ≠ "dict" → TyX X.K H x (.type (tyN d)) := fun h hn => (vw.ty sm h).elim id fun ⟨_, _, _, e, _⟩ => absurd (Value.type.inj e) hn
  unfold pIsc at hp
  split at hp
  · rename_i e; cases e; cases hp; exact plain rfl (by simp [tys, tyN]) rfl (tyOf (n := "int") rfl (by simp [tyN]))
  · rename_i e; cases e; cases hp; exact plain rfl (by simp [tys, tyN]) rfl (tyOf (n := "int") rfl (by simp [tyN]))
  · rename_i e; cases e; cases hp; exact plain rfl (by simp [tys, tyN]) rfl (tyOf (n := "int") rfl (by simp [tyN]))
  · rename_i e; cases e; cases hp; exact plain rfl (by simp [tys, tyN]) rfl (tyOf (n := "str") rfl (by simp [tyN]))
  · rename_i e; cases e; cases hp; exact plain rfl (by simp [tys, tyN]) rfl (tyOf (n := "list") rfl (by simp [tyN]))
  · rename_i e; cases e; cases hp; exact plain rfl (by simp [tys, tyN]) rfl (tyOf (n := "tuple") rfl (by simp [tyN]))
  · rename_i c fs e
    cases e
    cases hp
    rcases vw with h | ⟨_, _, _, _, e, _⟩ | ⟨_, _, _, _, _, e, _⟩
    · have hc : ∃ n : Nat, c = n := by
        generalize e : PyData.dict ((.none, .int c) :: fs) = z at h
        cases h <;> simp at e
        · exact ⟨_, e.1⟩
        · exact ⟨_, e.1⟩
      obtain ⟨n, rfl⟩ := hc
      obtain ⟨a, oe, od, rfl, hn, J'⟩ := err_at I sm h
      obtain rfl : u = Value.ref a := rx
      exact ⟨.ref (Errs.ca n), _, _, rfl, PySem.W.kitx_err (hx n hn), J', (fun z => nomatch z), .inr ⟨n, hn, rfl, any_cs cs n⟩⟩
    · cases e
    · cases e
  · cases hp
theorem pm_isc {X : Cx} {cv : Value} {cs : List Nat} (hx : ∀ c, c ∈ Errs.has → ExcC X.K (Errs.ca c)) (hc : ClsK X.K cv cs) : CallR X (.builtin "isinstance") (fun vs H Q => ∃ x c, vs = [x, c] ∧ ClsV c cv ∧ rPrim X.K (.isc cs) [x] H Q) := by
  intro pins s sg H vs us Q I rv h
  obtain ⟨x, c, rfl, k, J, ds, t, sm, vw, hp, q⟩ := h
  obtain ⟨u1, u2, rfl, r1, r2⟩ := vals2 rv
  have e2 := k.eq r2
  subst e2
  have hlen : ∃ d, ds = [d] := by
    cases vw with
    | cons a b => cases b; exact ⟨_, rfl⟩
  obtain ⟨d, rfl⟩ := hlen
  obtain ⟨ty, P, b, rfl, Z, p, hne, hb⟩ := isc_kit hx I r1 sm vw.one' hp
  have hk : PySem.W.kitOne X.K ty u2 = some b := by
    rcases hb with ⟨t', m, rfl, rfl⟩ | ⟨c, hn, rfl, rfl⟩
    · exact hc.2 t' m
    · exact hc.1 c hn
  exact PySem.W.kia_one Z I.kIn p hk hne fun tk => ⟨.bl b, H, I.tok tk, rfl, q.val sm (.bl b)⟩
inductive ClsKs (K : PySem.W.Frag) : List V → List Value → List Nat → Prop
  | nil : ClsKs K [] [] []
  | cons {c : V} {cv : Value} {vs : List V} {us : List Value} {cs ds : List Nat} : ClsV c cv → ClsK K cv cs → ClsKs K vs us ds → ClsKs K (c :: vs) (cv :: us) (cs ++ ds)
theorem ClsKs.pair {K : PySem.W.Frag} : ∀ {vs : List V} {us : List Value} {cs : List Nat}, ClsKs K vs us cs → Paired ClsV vs us
  | _, _, _, .nil => .nil
  | _, _, _, .cons h _ k => .cons h k.pair
theorem ClsKs.own {K : PySem.W.Frag} {c : Nat} (hc : c ∈ Errs.has) : ∀ {vs : List V} {us : List Value} {cs : List Nat}, ClsKs K vs us cs → PySem.W.kitAny K (.ref (Errs.ca c)) us = some (decide (c ∈ cs))
  | _, _, _, .nil => by simp [PySem.W.kitAny]
  | _, _, _, .cons (cs := cs) (ds := ds) _ h k => by
    have ih := k.own hc
    have h1 := h.1 c hc
    unfold PySem.W.kitAny
    by_cases e : c ∈ cs
    · simp [h1, e]
    · simp [h1, e, ih]
theorem ClsKs.plain {K : PySem.W.Frag} {t : String} (ht : t ∈ tys) : ∀ {vs : List V} {us : List Value} {cs : List Nat}, ClsKs K vs us cs → PySem.W.kitAny K (.type t) us = some false
  | _, _, _, .nil => by simp [PySem.W.kitAny]
  | _, _, _, .cons _ h k => by
    have ih := k.plain ht
    have h1 := h.2 t ht
    unfold PySem.W.kitAny
    simp [h1, ih]
theorem pm_iscT {X : Cx} {cvs : List V} {us0 : List Value} {cs : List Nat} (hx : ∀ c, c ∈ Errs.has → ExcC X.K (Errs.ca c)) (hc : ClsKs X.K cvs us0 cs) : CallR X (.builtin "isinstance") (fun vs H Q => ∃ x tp, vs = [x, .ref tp] ∧ H tp = some (.tup cvs) ∧ rPrim X.K (.isc cs) [x] H Q) := by
  intro pins s sg H vs us Q I rv h
  obtain ⟨x, tp, rfl, hT, J, ds, t, sm, vw, hp, q⟩ := h
  obtain ⟨u1, u2, rfl, r1, r2⟩ := vals2 rv
  cases (show u2 = Value.ref tp from r2)
  have hlen : ∃ d, ds = [d] := by
    cases vw with
    | cons a b => cases b; exact ⟨_, rfl⟩
  obtain ⟨d, rfl⟩ := hlen
  obtain ⟨ty, P, b, rfl, Z, p, hne, hb⟩ := isc_kit hx I r1 sm vw.one' hp
  have hk : PySem.W.kitAny X.K ty us0 = some b := by
    rcases hb with ⟨t', m, rfl, rfl⟩ | ⟨c, hn, rfl, rfl⟩
    · exact hc.plain m
    · exact hc.own hn
  obtain ⟨_, its, rv2, o, h1, h2, n, h3⟩ := (show ObjOk X.prog X.w H s.heap tp (.tup cvs) from I.hok tp _ hT)
  have e3 := ClsV.all hc.pair rv2
  subst e3
  obtain ⟨oc, od, dt, sl⟩ := o
  simp only at h2 h3
  subst h2 h3
  exact PySem.W.kia_tup Z I.kIn p h1 hk hne fun tk => ⟨.bl b, H, I.tok tk, rfl, q.val sm (.bl b)⟩
theorem pFld_some {n : String} {ds : List PyData} {t : Slot} (h : pFld n ds = some t) : ∃ c fs y, ds = [.dict ((.none, .int c) :: fs)] ∧ fldD (Str.ofString n) fs = some y ∧ t = .sh y := by
  unfold pFld at h
  split at h
  · obtain ⟨y, hy, rfl⟩ := Option.map_eq_some_iff.mp h
    exact ⟨_, _, y, rfl, hy, rfl⟩
  · cases h
theorem pe_errfld {X : Cx} {e : Expr} {te : TE} {pos : Pos} {n : String} (hx : ∀ c, c ∈ Errs.has → ExcC X.K (Errs.ca c)) (hno : ∀ c, c ∈ Errs.has → PySem.W.findIn X.K (.ref (Errs.ca c)) (Str.ofString n) = some none)
    (he : PE X e te) (hb : attributeBase e (Str.ofString n) X.env (eval e X.env) = eval e X.env) : PE X (.Attribute e (Str.ofString n) pos) (fun sg H Q => te sg H fun x H1 => rPrim X.K (.fld n) [x] H1 Q) := by
  refine ⟨fun pins s sg H Q I h => ?_⟩
  refine attr_of hb (thn (he.run pins s sg H _ I h) fun u s1 hh => ?_)
  obtain ⟨x, H1, I1, rx, J, ds, t, sm, vw, hp, q⟩ := hh
  obtain ⟨c, fs, y, rfl, hy, rfl⟩ := pFld_some (show pFld n ds = some t from hp)
  rcases vw.one' with h | ⟨_, _, _, _, e, _⟩ | ⟨_, _, _, _, _, e, _⟩
  · generalize ez : PyData.dict ((.none, .int c) :: fs) = z at h
    cases h with
    | exc0 hn h =>
      simp only [PyData.dict.injEq, List.cons.injEq, Prod.mk.injEq, true_and] at ez
      rw [ez.2] at hy
      cases hy
    | exc1 hn h k g =>
      rename_i a dd c' f v x
      simp only [PyData.dict.injEq, List.cons.injEq, Prod.mk.injEq, true_and] at ez
      rw [ez.2] at hy
      simp only [fldD] at hy
      split at hy
      · rename_i hf
        have hf := of_decide_eq_true hf
        subst hf
        cases hy
        obtain rfl : u = Value.ref a := rx
        obtain ⟨⟨oe, vs, h1, h2, h3⟩, _⟩ := (show ObjOk X.prog X.w H1 s1.heap a (XO _ _ _) from I1.hok a _ (sm _ _ h))
        obtain ⟨mA, hns, hr⟩ := (show ObjOk X.prog X.w H1 s1.heap dd (.xd _) from I1.hok dd _ (sm _ _ k))
        obtain ⟨od, ho, hl⟩ := lookIn_ns hns
        obtain ⟨uu, hu, ru⟩ := RelO.some_of (v := v) (o := mA (Str.ofString n)) (by have := hr (Str.ofString n); simpa using this)
        have J2 : PySem.W.InstAt s1.heap a oe (Errs.ca c') (some od) := ⟨h1, h2.1, by unfold PySem.W.notCls; rw [h3], by rw [h2.2]; exact ho⟩
        have C := hx c' hn
        exact HandSPX.exc_get I1.kIn J2 C.hg C.hk C.hs (PySem.W.findObj_own C.hd (hno c' hn) rfl (by rw [hl, hu])) (handed_of ru) ⟨v, H1, I1.tok _, ru, q.val sm g⟩
      · cases hy
    | _ => simp at ez
  · cases e
  · cases e
end Ev
end

section
set_option Elab.async false
set_option linter.all false
set_option maxRecDepth 100000
set_option maxHeartbeats 4000000
namespace L2
open PySem PySem.Spec PyProof.Rows
section
variable {X : Cx} {pins : List (Addr × Obj)} {σ : St} {H : Hp} {s : Shared}
theorem xo_ok {P : Program} {w : World} {H : Hp} {h : Heap} {a : Addr} {cls : Value} {d : Option Addr} {oe : Obj} {vs : Array Value} (e : h.get? a = some oe) (z : Zc cls d oe) (hd : oe.data = .fields vs) : ObjOk P w H h a (Ev.XO cls d a) :=
  ⟨⟨oe, vs, e, z, hd⟩, ⟨oe, e⟩, fun h1 h2 ⟨o, vs, e1, z1, d1⟩ k => ⟨o, vs, k o e1, z1, d1⟩⟩
theorem Inv.track {a : Addr} {o : HO} {oe : Obj} (I : Inv X pins σ H s) (hn : H a = none) (h0 : X.s_0.heap.get? a = none) (nL : a ≠ X.env.locals) (hc : ∀ v, oe.data ≠ .cell v) (he : s.heap.get? a = some oe) (hp : ∀ p ∈ X.pn ++ pins, p.1 ≠ a) (new : ObjOk X.prog X.w (upd H a o) s.heap a o) :
    Inv X pins σ (upd H a o) s where
  ok := I.ok
  os := I.os
  bare := I.bare
  base := by
    have b := I.base
    exact ⟨b.keep, b.slot, fun c u q n x => by rw [upd_ne (fun z => by rw [z, h0] at q; cases q)]; exact b.free c u q n x, b.there,
      fun c xs q => by rw [upd_ne (ne_of_none (b.tups c xs q) hn)]; exact b.tups c xs q,
      fun c u xs q => by rw [upd_ne (ne_of_none (b.frzs c u xs q) hn)]; exact b.frzs c u xs q,
      fun c ps q => by
        obtain ⟨more, m⟩ := b.tbls c ps q
        exact ⟨more, by rw [upd_ne (ne_of_none m hn)]; exact m⟩⟩
  loc := I.loc
  cell := I.cell
  free := by rw [upd_ne (fun z => nL z.symm)]; exact I.free
  freeC := fun x c q => by
    rw [upd_ne fun z => ?_]
    · exact I.freeC x c q
    · obtain ⟨v, hv⟩ := I.cell x c q
      rw [z] at hv
      obtain ⟨oc, e1, e2⟩ := hv
      rw [he] at e1
      cases e1
      exact hc _ e2
  pin := fun p q => by
    obtain ⟨p1, p2, p3⟩ := I.pin p q
    exact ⟨p1, by rw [upd_ne (hp p q)]; exact p2, p3⟩
  hok := I.hok.laidN (fun _ _ q => q) hn new
  len := I.len
end
def wAsT (K : PySem.W.Frag) (c : Value) (i : Nat) (ts : Addr → Value → Option Addr → TS) (Wout : WX) (D : Ends) : WX := fun cls d σ H =>
  ∃ b, PySem.W.exmOne K cls c = some b ∧ (b = true → ∀ a, H a = none → ts a cls d { nx := fun σ' H' => D.nx (σ'.set i none) H', rt := D.rt, bk := fun σ' H' => D.bk (σ'.set i none) H', ct := fun σ' H' => D.ct (σ'.set i none) H' } (σ.set i (some (.ref a))) (upd H a (Ev.XO cls d a))) ∧
    (b = false → Wout cls d σ H)
theorem Inv.suite0 (I : Inv X pins σ H s) {a : Addr} : Inv (X.suite a (X.pn ++ pins)) [] σ H s :=
  ⟨I.ok.suite _ _, I.os, I.bare, I.base, I.loc, I.cell, I.free, I.freeC, fun p hp => I.pin p (by rw [List.append_nil] at hp; exact hp), I.hok, I.len⟩
theorem Inv.unsuite0 {a : Addr} {pn' : List (Addr × Obj)} (I : Inv (X.suite a (X.pn ++ pins)) pn' σ H s) (ok : X.Ok) : Inv X pins σ H s :=
  ⟨ok, I.os, I.bare, I.base, I.loc, I.cell, I.free, I.freeC, fun p hp => I.pin p (List.mem_append_left _ hp), I.hok, I.len⟩
section
variable {X : Cx} {x n : Str} {c : Value} {i : Nat} {body suite : List Stmt} {b₀ : Stmt} {np pos pos' : Pos} {tb : WX → TS} {ts : Addr → Value → Option Addr → TS} {Wout : WX}
theorem ps_try_trk (hs : X.stack = X.env :: X.outer) (hf : X.env.frame = some X.env.locals) (hex : X.ex = []) (hN : X.N.Nodup) (hi : X.N[i]? = some n) (hln : X.env.kindOf n = some .local) (hc : Names X x c) (tk : Takes X Wout)
    (hb : ∀ (W : WX) (pn : List (Addr × Obj)) (xe : Value → Shared → Prop), Takes (X.tr pn xe) W → PassesOwn (model X.prog X.w) X.A X.env xe → PSs (X.tr pn xe) body (tb W))
    (hsu : ∀ (a : Addr) (cls : Value) (d : Option Addr) (pn : List (Addr × Obj)), PSs (X.suite a pn) (b₀ :: suite) (ts a cls d)) :
    PS X (.Try body [.ExceptHandler (some (.Name x np)) (some n) (b₀ :: suite) pos'] [] [] pos) (fun D σ H => tb (wAsT X.K c i ts Wout D) D σ H) := by
  refine ⟨fun pins s σ H D I h => ?_⟩
  have ok := I.ok
  have hfr : X.A.frames = some (X.env :: X.outer) := by rw [ok.frames, hs]
  have hloc : Loc X.env.scope n := .inl hln
  refine wpAny_Try_except ?_
  refine wpAny_mono ((hb (wAsT X.K c i ts Wout D) (X.pn ++ pins) (fun e s₁ => wpAny (model X.prog X.w) X.A (noteFrame e X.env) (fun _ s₂ => wpAny (model X.prog X.w) X.A (setFlight e none) (fun _ s₃ =>
    wpAny (model X.prog X.w) X.A (handleBy e X.env [.ExceptHandler (some (.Name x np)) (some n) (b₀ :: suite) pos']) (SP X pins D) X.xe s₃) X.xe s₂) X.xe s₁) (fun u s' xx => ?_) PassesOwn.looking).run [] s σ H D (I.toTry _) h) (fun f s1 hsp => ?_) (fun e s1 he => he)
  · -- the catch
    obtain ⟨a, B, sI, pins', σ', H', cls, d, rfl, J', nb, up, sky, na, os, ag, b, hb1, hyes, hno⟩ := xx
    have J : Inv X pins σ' H' sI := J'.ofTry ok
    have sky' : Sky B (X.env :: X.outer) a (Zc cls d) X.env.locals s'.heap := by rw [← hs]; exact sky
    show wpAny (model X.prog X.w) X.A (noteFrame (.ref a) X.env) _ _ _
    refine Sky.land Zc.steady hfr hf sky' fun h3 fl3 up3 => ?_
    have J3 : Inv X pins σ' H' { s' with heap := h3 } := J.landed nb fl3.1 (up.trans up3) os ag
    obtain ⟨oe3, vs3, he3, hz3, hd3⟩ := fl3.there
    have notFr : ∀ {h : Heap} {o : Obj} {vs : Array Value}, h.FunFrames B (X.env :: X.outer) → h.get? a = some o → o.data = .fields vs → a ∉ frs (X.env :: X.outer) := fun {h o vs} ff e dd hm => by
      obtain ⟨_, o', e', hnf⟩ := ff.mem hm
      rw [e] at e'; cases e'
      exact hnf _ dd
    have nfr := notFr fl3.2.2.1 he3 hd3
    have nL : a ≠ X.env.locals := fun z => nfr (List.mem_filterMap.mpr ⟨X.env, List.mem_cons_self, by rw [hf, z]⟩)
    have nF : a ∉ X.fs := fun hm => by
      obtain ⟨e, he, q⟩ := List.mem_filterMap.mp hm
      exact nfr (List.mem_filterMap.mpr ⟨e, List.mem_cons_of_mem _ he, q⟩)
    have hI0 : sI.heap.get? a = none := by
      cases e0 : sI.heap.get? a with
      | none => rfl
      | some o0 =>
        have := nb a o0 e0 (by rw [hs]; exact nfr)
        rw [fl3.2.1] at this
        cases this
    have h0 : X.s_0.heap.get? a = none := by
      cases e0 : X.s_0.heap.get? a with
      | none => rfl
      | some o0 =>
        obtain ⟨o1, e1⟩ := J.base.there a o0 e0 (by rw [hex]; exact List.not_mem_nil)
        rw [hI0] at e1
        cases e1
    have hpn : ∀ p ∈ X.pn ++ pins, p.1 ≠ a := fun p hp z => by
      have := (J.pin p hp).1
      rw [z, hI0] at this
      cases this
    have S3 := J3.suite he3 hd3 na nL nF
    refine wpAny_handleBy_cons (codeAny_handlers_test ?_) (by intro q; cases q)
    have LT : PySem.W.Looks (model X.prog X.w) h3 (typeOf (.ref a)) cls := fun A Q E s k q => wpAny_typeOf_ref (k _ _ he3) (by rw [hz3.1]; exact q)
    have LM := PySem.W.exm_one (M := model X.prog X.w) (J3.kIn) LT hb1
    have test : ∀ {Q : Value → Shared → Prop} {E : Value → Shared → Prop}, Q c { s' with heap := h3 } → wpAny (model X.prog X.w) (X.A.mark (some (.ref a))) (eval (.Name x np) X.env) Q E { s' with heap := h3 } := fun {Q E} q => by
      obtain ⟨hg, hdbg, hm | ⟨hm, hv, hnn⟩⟩ := hc
      · exact ld_glob (X := X.suite a ((a, oe3) :: (X.pn ++ pins))) S3 hg hm q hdbg
      · exact ld_blt (X := X.suite a ((a, oe3) :: (X.pn ++ pins))) S3 hg hm hv q hnn hdbg
    refine test (LM.here ?_)
    cases b with
    | true =>
      refine codeAny_handlers_suite_as ?_
      refine HandSPX.lands_againZ fl3 fun h4 fl4 up4 => ?_
      have J4 : Inv X pins σ' H' { s' with heap := h4 } := J.landed nb fl4.1 ((up.trans up3).trans up4) os ag
      obtain ⟨oe4, vs4, he4, hz4, hd4⟩ := fl4.there
      have T4 := J4.track na h0 nL (fun v z => by rw [hd4] at z; cases z) he4 hpn (xo_ok he4 hz4 hd4)
      refine store_ok (X := X.suite a (X.pn ++ pins)) (v := .ref a) (T4.suite0 (a := a)) hN hi hloc rfl (fun s5 S5 => ?_) (.inr hln)
      refine wpAny_mono ((hsu a cls d (X.pn ++ pins)).run [] s5 _ _ _ S5 (hyes rfl a na)) (fun f s6 hsp => ?_) (fun _ _ z => False.elim z)
      have end_ : ∀ {σ6 : St} {H6 : Hp} {Q : Shared → Prop}, Inv (X.suite a (X.pn ++ pins)) [] σ6 H6 s6 → (∀ s7, Inv X pins (σ6.set i none) H6 s7 → Q s7) →
          wpAny (model X.prog X.w) X.A (do bindName X.env n .none; unbindBehindTheSuite X.env n pos') (fun _ s7 => Q s7) X.xe s6 := fun {σ6 H6 Q} S6 hq => gone_ok (S6.unsuite0 ok) hN hi hln hq
      cases f with
      | next =>
        obtain ⟨σ6, H6, S6, q6⟩ := hsp
        exact end_ S6 fun s7 J7 => ⟨_, _, J7, q6⟩
      | brk =>
        obtain ⟨σ6, H6, S6, q6⟩ := hsp
        exact end_ S6 fun s7 J7 => ⟨_, _, J7, q6⟩
      | cont =>
        obtain ⟨σ6, H6, S6, q6⟩ := hsp
        exact end_ S6 fun s7 J7 => ⟨_, _, J7, q6⟩
      | ret u =>
        obtain ⟨v6, σ6, H6, S6, r6, q6⟩ := hsp
        exact end_ S6 fun s7 J7 => ⟨_, _, _, J7, r6, q6⟩
    | false =>
      show wpAny _ X.A (handleBy (.ref a) X.env []) _ _ _
      refine wpAny_handleBy_nil ?_
      obtain ⟨k1, k2, k3, oe, vs, T, oT, ts', he, hz, hd, h1, hr⟩ := id fl3
      unfold PySem.passOn
      refine wpAny_bind (wpAny_field he hd h1 ?_)
      rw [if_neg (show ¬ ((Value.ref T == Value.none) = true) from by simp)]
      have fin : wpAny (model X.prog X.w) X.A (setFlight (.ref a) X.env.frame) (fun _ s4 => wpAny (model X.prog X.w) X.A (throw (.ref a) : Sem Flow) (SP X pins D) X.xe s4) X.xe { s' with heap := h3 } := by
        rw [hf]
        refine HandSPX.setFlight_upZ fl3 fun h4 hh4 up4 => wpAny_throw (tk _ _ ?_)
        exact ⟨a, B, sI, pins, σ', H', cls, d, rfl, J, nb, (up.trans up3).trans up4, .inr (.inr (by rw [hs]; exact hh4)), na, os, ag, hno rfl⟩
      first
        | exact wpAny_bind (wpAny_pure (wpAny_bind fin))
        | exact wpAny_bind fin
  · cases f with
    | next =>
      obtain ⟨σ', H', J', q⟩ := hsp
      exact wpAny_execs_nil ⟨σ', H', J'.ofTry ok, q⟩
    | brk =>
      obtain ⟨σ', H', J', q⟩ := hsp
      exact ⟨σ', H', J'.ofTry ok, q⟩
    | cont =>
      obtain ⟨σ', H', J', q⟩ := hsp
      exact ⟨σ', H', J'.ofTry ok, q⟩
    | ret u =>
      obtain ⟨v, σ', H', J', r, q⟩ := hsp
      exact ⟨v, σ', H', J'.ofTry ok, r, q⟩
end
end L2
end

section
set_option Elab.async false
set_option linter.all false
set_option maxRecDepth 100000
set_option maxHeartbeats 2000000
namespace Ev
open PySem PySem.Spec PyProof.Rows L2
structure BasC (K : PySem.W.Frag) (mg : Str → Option Value) (b : Str) (C : Addr) : Prop where
  mg : mg b = some (.ref C)
  rd : PySem.W.readsIn K C (.type "type") = true
  ini : PySem.W.findCls K (.ref C) (.type "type") "__init__" = some (.val (.builtin "ValueError.__init__"))
  ga : PySem.W.specialIn K (.ref C) "__getattribute__" = some (some (.builtin "type.__getattribute__"))
section
variable {X : Cx} {e : Expr} {es : List Expr} {ta : TA} {p1 p2 pos : Pos} {b : Str} {C0 : Addr}
theorem pe_basinit (B : BasC X.K X.mg b C0) (hg : Gl X b) (hd : (b == ("__debug__" : Str)) = false) (ha : PA X (e :: es) ta) (hl : (p2.endLine == pos.line) = true)
    (hfew : methodCallForm ((e :: es).length + ([] : List Keyword).length) (backTo pos (starEach (e :: es) X.env)) (backToKw pos (keywordEach [] X.env)) = true)
    (he : starEach (e :: es) X.env = (false, eval e X.env) :: starEach es X.env) (hpl : (backTo pos (starEach es X.env)).any (·.1) = false) :
    PE X (.Call (.Attribute (.Name b p1) "__init__" p2) (e :: es) [] pos) (tVeI X.K ta) where
  run := by
    intro pins s sg H Q I h
    rw [arm_eval_Call, show attributeBase (.Name b p1) "__init__" X.env (eval (.Name b p1) X.env) = eval (.Name b p1) X.env from rfl]
    refine wpAny_bind (ld_glob I hg B.mg (wpAny_bind (wpAny_standAt ?_)) hd)
    have hpos : methodCallPos true (.Name b p1) X.env p2 pos = pure pos := by unfold methodCallPos; simp [hl]
    unfold methodCall
    rw [hfew]
    refine wpAny_bind (wpAny_holding (PySem.W.method_cls I.kIn B.ga (PySem.W.cls_value I.kIn B.rd B.ini (by decide +kernel) (wpAny_bind (wpAny_of_eq hpos ?_)))))
    show wpAny _ _ (callWith pos (Value.builtin "ValueError.__init__") [] (backTo pos (starEach (e :: es) X.env)) []) _ _ _
    refine PyProof.Rows.callWith_method1 (thn (ha.run pos pins _ sg H _ (I.tok _) h) ?_) he hpl
    rintro us s1 ⟨vs, H1, I1, r1, a, C, ws, rfl, hl, T, ea, q⟩
    cases r1 with
    | @cons _ u0 _ ur ra rb =>
      obtain rfl : u0 = Value.ref a := ra
      exact oinit_ok T I1 ea (by rw [← Paired.length rb, sizeLine_eq]; omega) fun s' J => ⟨.non, H1, J, rfl, q⟩
end
def iniForm (f b : Str) (sc : Scope) : List Stmt → Bool
  | [.Expr (.Call (.Attribute (.Name x _) m ap) [.Name y _, .Constant (.str _) _ _] [] cp) _, .Assign [.Attribute (.Name z _) g _] (.Name u _) _] =>
    decide (x = b) && decide (m = "__init__") && decide (y = "self") && decide (z = "self") && decide (g = f) && decide (u = f) && decide (sc.names.lookup b = some .globalImplicit) && decide (sc.names.lookup ("self" : Str) = some .local) && decide (sc.names.lookup f = some .local) &&
      !(b == ("__debug__" : Str)) && !(f == ("__debug__" : Str)) && !(f == ("__classdict__" : Str)) && (ap.endLine == cp.line)
  | _ => false
def clsStmt : Stmt → Stmt
  | .ClassDef _ _ _ (s :: _) .. => s
  | s => s
def spI (K : PySem.W.Frag) (f : Str) : Sp := fun vs H Q _ => ∃ (a C : Addr) (v : V), vs = [.ref a, v] ∧ OexC K C ∧ PySem.W.findIn K (.ref C) f = some none ∧ H a = some (exo a C none) ∧ ∀ dx, H dx = none → dx ≠ a → Q .non (upd (upd H dx (exd dx [(f, v)])) a (exo a C (some dx)))
section
variable {P : Program} {w : World} {K : PySem.W.Frag} {mg : Str → Option Value} {base : Heap}
theorem init_ok {qu f b : Str} {st : Stmt} {fI C0 : Addr} {fd : FuncData} (F : Fun K "__init__" qu st fI fd) (S : FnScope ["self", f] ["self", f] (defScope st)) (hf : iniForm f b (defScope st) (defBody st) = true) (B : BasC K mg b C0) : FnOk P w K mg base (L2.CX P w) 1 fI fd ["self", f] (spI K f) := by
  refine F.okX S (fun vs H Q E ⟨a, C, v, e, _⟩ => by rw [e]; rfl) (fun cv A ou s H vs Q E hr h => ?_)
  generalize hbd : defBody st = bd at hf
  unfold iniForm at hf
  split at hf
  · rename_i x p1 m p2 y p3 zz kk p4 p5 p6 z p7 g p8 u p9 p10
    simp only [Bool.and_eq_true, decide_eq_true_eq, Bool.not_eq_true'] at hf
    obtain ⟨⟨⟨⟨⟨⟨⟨⟨⟨⟨⟨⟨e1, e2⟩, e3⟩, e4⟩, e5⟩, e6⟩, h1⟩, h2⟩, h3⟩, h4⟩, h5⟩, h6⟩, h7⟩ := hf
    subst e1 e2 e3 e4 e5 e6
    let X : Cx := cxOf (L2.CX P w) P w K mg base ["self", u] qu (defScope st) fI cv A ou s H E
    have v0 : ∀ p : Pos, PE X (.Name "self" p) (tVar 0) := fun p => pe_var rfl (by show Vis (defScope st) "self"; unfold Vis; rw [h2]; simp)
    have v1 : ∀ p : Pos, PE X (.Name u p) (tVar 1) := fun p => pe_var rfl (by show Vis (defScope st) u; unfold Vis; rw [h3]; simp) h5 h6
    have c1 := pe_basinit (X := X) (p1 := p1) (p2 := p2) (pos := p5) B h1 h4 (pa_cons (v0 p3) (pa_cons (pe_str (X := X) (x := zz) (j := kk) (pos := p4)) pa_nil rfl) rfl) h7 rfl rfl rfl
    refine ⟨_, pss_cons (ps_expr c1) (pss_cons (ps_ost (v0 p7) (v1 p9) rfl) pss_nil), ?_⟩
    obtain ⟨a, C, v, rfl, T, hno, ea, q⟩ := h
    refine ⟨_, rfl, ?_⟩
    show ∃ (a1 C : Addr) (ws : List V), [V.ref a, V.str zz] = V.ref a1 :: ws ∧ ws.length ≤ 1000 ∧ OexC K C ∧ H a1 = some (exo a1 C none) ∧ tSeq (tOst K u (tVar 0) (tVar 1)) tNext { nx := fun _ H' => Q .non H', rt := Q } (L2.start ["self", u] [V.ref a, v]) H
    refine ⟨a, C, [V.str zz], rfl, (by show 1 ≤ 1000; decide), T, ea, _, rfl, _, rfl, a, C, rfl, T, hno, .inl ⟨ea, fun dx h1 h2 => q dx h1 h2⟩⟩
  · cases hf
end
end Ev
end

section
set_option Elab.async false
set_option linter.all false
set_option maxRecDepth 100000
set_option maxHeartbeats 4000000
namespace Ev
open PySem PySem.Spec PyProof.Rows L2
theorem FnG.mono {P : Program} {w : World} {K : PySem.W.Frag} {mg : Str → Option Value} {base : Heap} {CX : CXT} {j k : Nat} {f : Addr} {fd : FuncData} {ps : List Str} {sp : Sp} (F : FnG P w K mg base CX k f fd ps sp) (h : k ≤ j) : FnG P w K mg base CX j f fd ps sp :=
  ⟨F.len, fun A ou s H ar us vs Q E gd hr e0 hb rv hs => F.run A ou s H ar us vs Q E gd (hr.mono h) e0 hb rv hs⟩
section
variable {X : Cx} {CX : CXT} {k : Nat} {f C : Addr} {fd : FuncData} {ps : List Str} {sp : Sp} {E : L2.St → XK} {x m : Str} {p pos apos : Pos} {e o : Expr} {es : List Expr} {ta : TE} {t : TA}
end
end Ev
end

section
set_option Elab.async false
set_option linter.all false
set_option maxRecDepth 100000
set_option maxHeartbeats 4000000
namespace Ev
open PySem L2
variable [Errs]

def spF (K : PySem.W.Frag) (Ph : Ro → FR) : Sp := fun vs H Q E => ∃ J args fp, Wf K H J (vs.map some) args fp ∧ (match Ph args with
  | .ret s outs => ∀ v H' J' fp' g, Wf K H' J' (vs.map some) outs fp' → RepS K H' J' s v g → (∀ b ∈ g, J' b = none ∧ ¬ Own fp' b) → Step (Own fp) H J (fun b => Own fp' b ∨ b ∈ g) H' J' → Q v H'
  | .ex c fs outs => ∀ H' J' fp' cls d, Wf K H' J' (vs.map some) outs fp' → XRep K H' J' c fs cls d → Step (Own fp) H J (Own fp') H' J' → E cls d H'
  | .bad => False)

def bnames : List Str := ["len", "max", "min", "list", "tuple", "int", "range", "sorted", "isinstance", "bool", "str", "dict", "sum", "zip", "enumerate", "all", "any", "repr", "set"]

structure ErrsOk (K : PySem.W.Frag) (mg : Str → Option Value) (tx : Tx) : Prop where
  ex : ∀ c, c ∈ Errs.has → ExcC K (Errs.ca c)
  fld : ∀ c, c ∈ Errs.has → ∀ f ∈ ["at", "part"], PySem.W.findIn K (.ref (Errs.ca c)) (Str.ofString f) = some none
  cl : ∀ x cs, tx.clss.lookup x = some cs → ∃ (v : V) (cv : Value), ClsV v cv ∧ RelV v cv ∧ (mg x = some cv ∨ (mg x = none ∧ bootBuiltins x = some cv ∧ x ≠ "__name__")) ∧ ClsK K cv cs ∧ ∀ c, c ∈ Errs.has → PySem.W.exmOne K (.ref (Errs.ca c)) cv = some (decide (c ∈ cs))
  rs : ∀ x c, tx.excs.lookup x = some (c, "") → c ∈ Errs.has ∧ mg x = some (.ref (Errs.ca c)) ∧ PySem.W.keepIn K (.ref (Errs.ca c)) = true ∧ PySem.W.excIn K (Errs.ca c) [.type "ValueError", .type "Exception", .type "BaseException", .type "object"] "ValueError.__new__" = true ∧
    PySem.W.subIn K (.ref (Errs.ca c)) (.type "BaseException") = some true ∧ PySem.W.typeIn K (.ref (Errs.ca c)) = some (.type "type")
  rf : ∀ x c f, tx.excs.lookup x = some (c, f) → f ≠ "" → c ∈ Errs.has ∧ mg x = some (.ref (Errs.ca c)) ∧ OexC K (Errs.ca c) ∧ PySem.W.findIn K (.ref (Errs.ca c)) (Str.ofString f) = some none ∧
    ∃ (fI C0 : Addr) (fd : FuncData) (qu : Str) (st : Stmt), PySem.W.findIn K (.ref (Errs.ca c)) "__init__" = some (some (.ref fI)) ∧ PySem.W.typeIn K (.ref fI) = some (.type "function") ∧ Fun K "__init__" qu st fI fd ∧
      FnScope ["self", Str.ofString f] ["self", Str.ofString f] (defScope st) ∧ iniForm (Str.ofString f) "LotError" (defScope st) (defBody st) = true ∧ BasC K mg "LotError" C0 ∧ Binds K fd ["self", Str.ofString f] []
structure ObsOk (pr : Program) (w : World) (K : PySem.W.Frag) (mg : Str → Option Value) (base : Heap) (k : Nat) (Phi : Nat → Ro → FR) (tx : Tx) : Prop where
  mks : ∀ x c f, tx.mks.lookup x = some (c, f) → ∃ a fd ps, FnG pr w K mg base (L2.CX pr w) (2 * k + 2) a fd ps (spF K (Phi f)) ∧ mg x = some (.ref (Errs.oc c)) ∧ Mk K (Errs.oc c) a ∧ Binds K fd ps []
  mts : ∀ c m f, (c, m, f) ∈ tx.mts → ∃ a fd ps, FnG pr w K mg base (L2.CX pr w) (2 * k + 2) a fd ps (spF K (Phi f)) ∧ Cls K (Errs.oc c) ∧ Meth K (Errs.oc c) m a ∧ Binds K fd ps []
  fls : ∀ c f, (c, f) ∈ tx.flds → Cls K (Errs.oc c) ∧ NoAttr K (Errs.oc c) f
structure RoomW (k : Nat) (A : Around) (c : Prop) : Prop where
  hd : c → A.handled = none
  dp : A.depth + 3 * k + 5 < recursionLimit
  un : A.units + 16 * k + 200 < cLine
theorem RoomW.units {k : Nat} {A : Around} {c : Prop} (r : RoomW k A c) : A.units + 64 < cLine := by have := r.un; omega
theorem RoomW.of {k : Nat} {A : Around} {c : Prop} (r : RoomW k A c) (h : c) : Room k A := ⟨r.hd h, r.dp, r.un⟩
theorem RoomW.all {k : Nat} {A : Around} {c : Prop} (r : Room k A) : RoomW k A c := ⟨fun _ => r.hd, r.dp, r.un⟩
structure Good (P : Prg) (N : List Str) (k : Nat) (Phi : Nat → Ro → FR) (X : Cx) (sc : Scope) (fb : Str → Bool) : Prop where
  hN : X.N = N
  nd : N.Nodup
  hsc : X.env.scope = sc
  kd : sc.kind = .function
  hfb : X.fn = fb
  calm : P.tx.cm = true → X.calm = true
  room : RoomW (2 * k + 3) X.A (P.tx.cm = true)
  gd : X.A.guards = some []
  blt : ∀ x ∈ bnames, X.mg x = none
  fns : ∀ f x, P.tx.names[f]? = some x → ∃ a fd ps, FnG X.prog X.w X.K X.mg X.base (L2.CX X.prog X.w) (2 * k + 2) a fd ps (spF X.K (Phi f)) ∧ X.mg x = some (.ref a) ∧ PySem.W.keepIn X.K (.ref a) = true ∧ Binds X.K fd ps []
  fvs : ∀ f x, P.tx.names[f]? = some x → f < Errs.fn ∧ X.mg x = some (.ref (Errs.fa f))
  fnn : ∀ f, f < Errs.fn → ∃ x, P.tx.names[f]? = some x
  csts : ∀ x d, P.tx.consts.lookup x = some d → ∃ u, X.mg x = some u ∧ match d with | .int j => ∃ t, u = .int j t | .str j => ∃ t, u = .str j t | _ => True
  ers : ErrsOk X.K X.mg P.tx
  obs : ObsOk X.prog X.w X.K X.mg X.base k Phi P.tx

section
variable {P : Prg} {N : List Str} {k : Nat} {Phi : Nat → Ro → FR} {X : Cx} {sc : Scope} {fb : Str → Bool}
theorem Good.blk (g : Good P N k Phi X sc fb) {s : Shared} {H : Hp} {scope : Scope} {cl : List (Str × Addr)} {C : Addr} {fp : List Addr} (hk : scope.kind = .function) :
    Good P N k Phi (X.blk s H scope (compEnvC scope cl C X.env) fp) (relS scope sc) (fun x => scope.names.lookup x == some .cell) where
  hN := g.hN
  nd := g.nd
  hsc := by rw [← g.hsc]; rfl
  kd := hk
  hfb := rfl
  calm := g.calm
  room := g.room
  gd := g.gd
  blt := g.blt
  fns := g.fns
  fvs := g.fvs
  fnn := g.fnn
  csts := g.csts
  ers := g.ers
  obs := g.obs
theorem Good.tr (g : Good P N k Phi X sc fb) (pn : List (Addr × Obj)) (xe : Value → Shared → Prop) : Good P N k Phi (X.tr pn xe) sc fb where
  hN := g.hN
  nd := g.nd
  hsc := g.hsc
  kd := g.kd
  hfb := g.hfb
  calm := g.calm
  room := g.room
  gd := g.gd
  blt := g.blt
  fns := g.fns
  fvs := g.fvs
  fnn := g.fnn
  csts := g.csts
  ers := g.ers
  obs := g.obs
theorem isV_ok (g : Good P N k Phi X sc fb) {i : Nat} {x : Str} {pos : Pos} (h : isV N sc i x = true) : PE X (.Name x pos) (tVar i) := by
  unfold isV at h
  simp only [Bool.and_eq_true, decide_eq_true_eq, Bool.not_eq_true'] at h
  obtain ⟨⟨⟨h1, h2⟩, h3⟩, h4⟩ := h
  refine pe_var (by rw [g.hN]; exact h1) ?_ h3 h4
  rw [g.hsc]
  unfold Vis
  split at h2 <;> first | (rename_i e; rw [e]; simp) | cases h2
theorem isG_ok (g : Good P N k Phi X sc fb) {x : Str} (h : isG sc x = true) : Gl X x ∧ (x == ("__debug__" : Str)) = false := by
  unfold isG at h
  simp only [Bool.and_eq_true, Bool.not_eq_true'] at h
  refine ⟨?_, h.2⟩
  have h1 := h.1
  split at h1
  · rename_i e
    show X.env.scope.names.lookup x = some .globalImplicit
    rw [g.hsc]; exact e
  · cases h1
theorem isL_ok (g : Good P N k Phi X sc fb) {i : Nat} {x : Str} {pos : Pos} (h : isL N sc fb i x = true) : X.N[i]? = some x ∧ Loc X.env.scope x ∧ (X.fn x = true ∨ X.env.scope.names.lookup x = some .local) := by
  unfold isL at h
  simp only [Bool.and_eq_true, decide_eq_true_eq] at h
  obtain ⟨h1, h2⟩ := h
  refine ⟨by rw [g.hN]; exact h1, ?_⟩
  rw [g.hsc, g.hfb]
  unfold L2.Loc
  split at h2
  · rename_i e; rw [e]; simp
  · rename_i e; rw [e]; simp; exact h2
  · cases h2
theorem star_ok {e : Expr} {es : List Expr} {env : Env} (h : isStar e = false) : starEach (e :: es) env = (false, eval e env) :: starEach es env := by
  cases e <;> first | rfl | (simp [isStar] at h)
theorem okE_star {c : CE} {e : Expr} (h : okE P.tx N sc c e = true) : isStar e = false := by
  cases e <;> first | rfl | (cases c <;> first | exact (Bool.false_ne_true h).elim | (simp [okE, opForm, mthd, badE] at h; done) | (unfold okE at h; split at h <;> first | (cases h; done) | (rename_i q; cases q; done) | (simp at h; done)))
theorem okEs_star : ∀ {cs : CEs} {es : List Expr}, okEs P.tx N sc cs es = true → ∀ e ∈ es, isStar e = false
  | .nil, [], _, e, q => nomatch q
  | .nil, _ :: _, h, _, _ => by simp [okEs] at h
  | .cons _ _, [], h, _, _ => by simp [okEs] at h
  | .cons c cs, e :: es, h, x, q => by
    simp only [okEs, Bool.and_eq_true] at h
    rcases List.mem_cons.mp q with z | z
    · rw [z]; exact okE_star h.1
    · exact okEs_star h.2 x z
theorem plain_ok {pos : Pos} {env : Env} : ∀ {es : List Expr}, (∀ e ∈ es, isStar e = false) → (backTo pos (starEach es env)).any (·.1) = false
  | [], _ => rfl
  | e :: es, h => by
    rw [star_ok (h e (List.mem_cons_self ..))]
    have ih := plain_ok (pos := pos) (env := env) (es := es) fun x q => h x (List.mem_cons_of_mem _ q)
    unfold backTo at ih ⊢
    rw [List.map_cons, List.any_cons, ih]
    rfl
theorem many_len {f1 : CE → Ro → R Od} : ∀ {cs : CEs} {r : Ro} {x : List Od} {r1 : Ro}, many f1 cs r = .ok x r1 → x.length = cs.len
  | .nil, r, x, r1, h => by simp only [many] at h; cases h; rfl
  | .cons c cs, r, x, r1, h => by
    simp only [many] at h
    cases e : f1 c r with
    | bad => rw [e] at h; cases h
    | ex _ _ _ => rw [e] at h; cases h
    | ok a q =>
      rw [e] at h
      simp only [R.bind] at h
      cases e2 : many f1 cs q with
      | bad => rw [e2] at h; cases h
      | ex _ _ _ => rw [e2] at h; cases h
      | ok b q2 =>
        rw [e2] at h
        cases h
        rw [List.length_cons, many_len e2, CEs.len]
end

section
variable {K : PySem.W.Frag} {W : WX} {sg : St} {H J H1 J1 : Hp} {fp fp1 : Nat → List Addr} {Phi : Nat → Ro → FR}
theorem it1_da : ∀ {cs : CEs} {r : Ro} {x : List Od} {r1 : Ro}, many (it1 Phi) cs r = .ok x r1 → ∀ p ∈ x, ∃ d, p = .da d
  | .nil, r, x, r1, h => by simp only [many] at h; cases h; exact fun p q => nomatch q
  | .cons c cs, r, x, r1, h => by
    simp only [many, it1, R.bind_bind] at h
    cases e : (ev Phi c r).sh with
    | bad => rw [e] at h; cases h
    | ex _ _ _ => rw [e] at h; cases h
    | ok a q =>
      rw [e] at h
      simp only [R.bind] at h
      cases e2 : many (it1 Phi) cs q with
      | bad => rw [e2] at h; cases h
      | ex _ _ _ => rw [e2] at h; cases h
      | ok b q2 =>
        rw [e2] at h
        cases h
        intro p hp
        rcases List.mem_cons.mp hp with z | z
        · exact ⟨_, z⟩
        · exact it1_da e2 p z
theorem Ods.shared : ∀ {x : List Od} {vs : List V} {gs : List Addr}, Ods K H J fp sg x vs gs → (∀ p ∈ x, ∃ d, p = .da d) → gs = [] ∧ ShAll K J vs (dasOf x)
  | _, _, _, .nil, _ => ⟨rfl, .nil⟩
  | _, _, _, .cons (o := o) h _ k, n => by
    obtain ⟨d, rfl⟩ := n _ (List.mem_cons_self ..)
    obtain ⟨e1, e2⟩ := k.shared fun p q => n p (List.mem_cons_of_mem _ q)
    obtain ⟨h1, h2⟩ := h
    rw [e1, h1]
    exact ⟨rfl, .cons h2 e2⟩
theorem rd1_plain : ∀ {cs : CEs} {r : Ro} {x : List Od} {r1 : Ro}, many (rd1 Phi) cs r = .ok x r1 → ∀ p ∈ x, (∃ i, p = .pl i) ∨ ∃ d, p = .da d
  | .nil, r, x, r1, h => by simp only [many] at h; cases h; exact fun p q => nomatch q
  | .cons c cs, r, x, r1, h => by
    simp only [many] at h
    cases e : rd1 Phi c r with
    | bad => rw [e] at h; cases h
    | ex _ _ _ => rw [e] at h; cases h
    | ok a q =>
      rw [e] at h
      simp only [R.bind] at h
      cases e2 : many (rd1 Phi) cs q with
      | bad => rw [e2] at h; cases h
      | ex _ _ _ => rw [e2] at h; cases h
      | ok b q2 =>
        rw [e2] at h
        cases h
        intro p hp
        rcases List.mem_cons.mp hp with z | z
        · subst z
          cases c <;> simp only [rd1] at e <;> first | (split at e <;> cases e; exact .inl ⟨_, rfl⟩) | (generalize (ev Phi _ r).sh = zz at e; cases zz <;> simp only [R.bind] at e <;> cases e; exact .inr ⟨_, rfl⟩)
        · exact rd1_plain e2 p z
theorem Ods.plain : ∀ {x : List Od} {vs : List V} {gs : List Addr}, Ods K H J fp sg x vs gs → (∀ p ∈ x, (∃ i, p = .pl i) ∨ ∃ d, p = .da d) → gs = []
  | _, _, _, .nil, _ => rfl
  | _, _, _, .cons (o := o) h _ k, n => by
    have e := k.plain fun p q => n p (List.mem_cons_of_mem _ q)
    rw [e]
    rcases n _ (List.mem_cons_self ..) with ⟨i, rfl⟩ | ⟨d, rfl⟩
    · rw [h.1]; rfl
    · rw [h.1]; rfl
theorem op_readR {o : Op} {es : CEs} {Q : V → Hp → Prop} {RR : List V → Hp → Prop} (h : tEv K W Phi (.op o es) sg H Q) (hR : ∀ vs H2, rPrim K o vs H2 Q → RR vs H2) : seqOpd K W (rd1 Phi) es sg H RR := by
  obtain ⟨J, r, fp, w, f⟩ := h
  refine seqOpd_of es w ?_
  simp only [ev, rds_many] at f
  cases e : many (rd1 Phi) es r with
  | bad => rw [e] at f; exact f
  | ex c fs r1 => rw [e] at f; exact f
  | ok x r1 =>
    rw [e] at f
    simp only [R.bind] at f
    intro vs H1 J1 fp1 gs w1 o1 t1
    obtain rfl := o1.plain (rd1_plain e)
    cases er : rdOs r1 x with
    | none => rw [er] at f; exact f.elim
    | some ds =>
      rw [er] at f
      simp only at f
      cases ep : prim o ds with
      | none => rw [ep] at f; exact f.elim
      | some s =>
        rw [ep] at f
        refine hR _ _ ⟨J1, _, s, w1.same, o1.views w1 er, ep, fun v H2 J2 g q n st sm => ?_⟩
        refine f v H2 J2 fp1 g (w1.step st sm fun a _ z => z) q (fun b z => ⟨(n b z).1, fun y => ?_⟩) ((step_nil t1).trans ?_)
        · obtain ⟨j, y⟩ := y
          obtain ⟨_, o, ho, _⟩ := w1.jn j b y
          rw [(n b z).2] at ho
          cases ho
        · refine ⟨st.js, fun b o q _ => st.fr b o q id, fun b q => ?_, fun b q => (st.jg b q).imp id fun z => z.imp False.elim id⟩
          rcases q with q | q
          · exact .inl q
          · exact (st.fn b q).imp False.elim id
theorem op_read {o : Op} {es : CEs} {Q : V → Hp → Prop} (h : tEv K W Phi (.op o es) sg H Q) : seqOpd K W (rd1 Phi) es sg H fun vs H2 => rPrim K o vs H2 Q := op_readR h fun _ _ q => q
end
end Ev
end

section
set_option Elab.async false
set_option linter.all false
set_option maxRecDepth 100000
set_option maxHeartbeats 4000000
namespace Ev
open PySem L2
variable [Errs]

mutual
def tT (K : PySem.W.Frag) : CT → TG
  | .name i => gName i
  | .tup ts => gTup K ts.len (tTs K ts)
def tTs (K : PySem.W.Frag) : CTs → TGs
  | .nil => gNil
  | .cons t ts => gCons (tT K t) (tTs K ts)
end
section
variable {P : Prg} {N : List Str} {k : Nat} {Phi : Nat → Ro → FR} {X : Cx} {sc : Scope} {fb : Str → Bool}
theorem okT_star {t : CT} {e : Expr} (h : okT N sc fb t e = true) : isStar e = false := by
  cases e <;> first | rfl | (cases t <;> simp [okT] at h)
theorem asgE_ok {e : Expr} {l : List Expr} {env : Env} (h : isStar e = false) : assignEach (e :: l) env = (false, assign e env) :: assignEach l env := by
  cases e <;> first | rfl | (simp [isStar] at h)
theorem okTs_stars : ∀ {ts : CTs} {l : List Expr} {env : Env}, okTs N sc fb ts l = true → (assignEach l env).length = ts.len ∧ (assignEach l env).findIdx? (·.1) = none
  | .nil, [], _, _ => ⟨rfl, rfl⟩
  | .nil, _ :: _, _, h => by simp [okTs] at h
  | .cons _ _, [], _, h => by simp [okTs] at h
  | .cons t ts, e :: l, env, h => by
    simp only [okTs, Bool.and_eq_true] at h
    obtain ⟨a, b⟩ := okTs_stars (env := env) h.2
    rw [asgE_ok (okT_star h.1)]
    refine ⟨by rw [List.length_cons, a, CTs.len], ?_⟩
    rw [List.findIdx?_cons]
    simp [b]
mutual
theorem soundT : ∀ (t : CT) {e : Expr}, Good P N k Phi X sc fb → P.tx.cm = true → okT N sc fb t e = true → PG X e (tT X.K t)
  | .name i, e, g, hcm, h => by
    cases e <;> try (simp only [okT, Bool.false_eq_true] at h)
    rename_i x p
    obtain ⟨h1, h2, h3⟩ := isL_ok (pos := p) g h
    exact pg_name (by rw [g.hN]; exact g.nd) h1 h2 h3
  | .tup ts, e, g, hcm, h => by
    cases e <;> try (simp only [okT, Bool.false_eq_true] at h)
    have q := soundTs ts g hcm h
    obtain ⟨a, b⟩ := okTs_stars (env := X.env) h
    exact pg_tup (g.calm hcm) q a b
theorem soundTs : ∀ (ts : CTs) {l : List Expr}, Good P N k Phi X sc fb → P.tx.cm = true → okTs N sc fb ts l = true → PGs X l (tTs X.K ts)
  | .nil, l, g, hcm, h => by
    cases l with
    | nil => exact pgs_nil
    | cons e l => simp [okTs] at h
  | .cons t ts, l, g, hcm, h => by
    cases l with
    | nil => simp [okTs] at h
    | cons e l =>
      simp only [okTs, Bool.and_eq_true] at h
      exact pgs_cons (soundT t g hcm h.1) (soundTs ts g hcm h.2) (by rw [asgE_ok (okT_star h.1)]; rfl)
end
end

def Agree (vs : List Nat) (sg sg' : St) : Prop := sg'.length = sg.length ∧ ∀ i, i ∉ vs → sg'[i]? = sg[i]?
theorem Agree.refl {vs : List Nat} {sg : St} : Agree vs sg sg := ⟨rfl, fun _ _ => rfl⟩
theorem Agree.trans {vs : List Nat} {a b c : St} (h : Agree vs a b) (k : Agree vs b c) : Agree vs a c := ⟨k.1.trans h.1, fun i n => (k.2 i n).trans (h.2 i n)⟩
theorem Agree.mono {vs ws : List Nat} {a b : St} (h : Agree vs a b) (m : ∀ i ∈ vs, i ∈ ws) : Agree ws a b := ⟨h.1, fun i n => h.2 i fun q => n (m i q)⟩
theorem Agree.set {vs : List Nat} {sg : St} {i : Nat} {o : Option V} (h : i ∈ vs) : Agree vs sg (sg.set i o) := ⟨List.length_set, fun j n => List.getElem?_set_ne fun e => n (by rw [← e]; exact h)⟩
section
variable {K : PySem.W.Frag} {H J : Hp}
theorem Wf.putSh {sg : St} {r : Ro} {fp : Nat → List Addr} {i : Nat} {v : V} {d : PyData} (w : Wf K H J sg r fp) (hi : i < r.length) (h : Sh K J v d) : Wf K H J (sg.set i (some v)) (r.set i (.sh d)) (fpSet fp i []) :=
  w.put (g := []) hi ⟨rfl, h⟩ fun b q => nomatch q
mutual
theorem asg_ok : ∀ {t : CT} {d : PyData} {v : V} {sg : St} {r r' : Ro} {fp : Nat → List Addr} {Q : St → Hp → Prop}, asg t d r = some r' → Wf K H J sg r fp → Sh K J v d →
    (∀ sg' fp', Wf K H J sg' r' fp' → (∀ b, Own fp' b → Own fp b) → Agree (slotsT t) sg sg' → Q sg' H) → tT K t v sg H Q
  | .name i, d, v, sg, r, r', fp, Q, e, w, h, q => by
    simp only [asg, asgN] at e
    split at e
    · rename_i hi
      cases e
      exact q _ _ (w.putSh (of_decide_eq_true hi) h) (fun b z => own_wipe z) (.set (by simp [slotsT]))
    · cases e
  | .tup ts, .tuple ds, v, sg, r, r', fp, Q, e, w, h, q => by
    simp only [asg] at e
    cases h with
    | tup h1 h2 =>
      rename_i a xs
      refine ⟨a, xs, rfl, .of (w.same _ _ h1), ?_, asgs_ok e w h2 fun sg' fp' w' o' a' => q sg' fp' w' o' (by simpa only [slotsT] using a')⟩
      rw [shsLen h2]
      exact asgs_len e
  | .tup ts, .none, _, _, _, _, _, _, e, _, _, _ => by simp [asg] at e
  | .tup ts, .bool _, _, _, _, _, _, _, e, _, _, _ => by simp [asg] at e
  | .tup ts, .int _, _, _, _, _, _, _, e, _, _, _ => by simp [asg] at e
  | .tup ts, .str _, _, _, _, _, _, _, e, _, _, _ => by simp [asg] at e
  | .tup ts, .list _, _, _, _, _, _, _, e, _, _, _ => by simp [asg] at e
  | .tup ts, .dict _, _, _, _, _, _, _, e, _, _, _ => by simp [asg] at e
theorem asgs_ok : ∀ {ts : CTs} {ds : List PyData} {vs : List V} {sg : St} {r r' : Ro} {fp : Nat → List Addr} {Q : St → Hp → Prop}, asgs ts ds r = some r' → Wf K H J sg r fp → ShAll K J vs ds →
    (∀ sg' fp', Wf K H J sg' r' fp' → (∀ b, Own fp' b → Own fp b) → Agree (slotsTs ts) sg sg' → Q sg' H) → tTs K ts vs sg H Q
  | .nil, [], vs, sg, r, r', fp, Q, e, w, h, q => by
    simp only [asgs] at e
    cases e
    cases h
    exact ⟨rfl, q _ _ w (fun _ z => z) .refl⟩
  | .nil, _ :: _, _, _, _, _, _, _, e, _, _, _ => by simp [asgs] at e
  | .cons t ts, [], _, _, _, _, _, _, e, _, _, _ => by simp [asgs] at e
  | .cons t ts, d :: ds, vs, sg, r, r', fp, Q, e, w, h, q => by
    simp only [asgs] at e
    cases h with
    | cons h1 h2 =>
      rename_i v vs
      cases e1 : asg t d r with
      | none => rw [e1] at e; cases e
      | some r1 =>
        rw [e1] at e
        refine ⟨v, vs, rfl, asg_ok e1 w h1 fun sg1 fp1 w1 o1 a1 => asgs_ok e w1 h2 fun sg2 fp2 w2 o2 a2 => q sg2 fp2 w2 (fun b z => o1 b (o2 b z)) ?_⟩
        simp only [slotsTs]
        exact (a1.mono fun i z => List.mem_append.mpr (.inl z)).trans (a2.mono fun i z => List.mem_append.mpr (.inr z))
theorem asgs_len : ∀ {ts : CTs} {ds : List PyData} {r r' : Ro}, asgs ts ds r = some r' → ds.length = ts.len
  | .nil, [], _, _, _ => rfl
  | .nil, _ :: _, _, _, e => by simp [asgs] at e
  | .cons t ts, [], _, _, e => by simp [asgs] at e
  | .cons t ts, d :: ds, r, r', e => by
    simp only [asgs] at e
    cases e1 : asg t d r with
    | none => rw [e1] at e; cases e
    | some r1 =>
      rw [e1] at e
      rw [List.length_cons, asgs_len e, CTs.len]
end
end
end Ev
end

section
set_option Elab.async false
set_option linter.all false
set_option maxRecDepth 100000
set_option maxHeartbeats 4000000
namespace Ev
open PySem L2
variable [Errs]

theorem wipeR_len (r : Ro) : ∀ vs : List Nat, (wipeR r vs).length = r.length
  | [] => rfl
  | v :: vs => by unfold wipeR; rw [List.length_set, wipeR_len r vs]
theorem wipeR_in {r : Ro} {j : Nat} : ∀ {vs : List Nat}, j ∈ vs → (wipeR r vs)[j]? = none ∨ (wipeR r vs)[j]? = some .non
  | [], h => nomatch h
  | v :: vs, h => by
    unfold wipeR
    by_cases e : v = j
    · subst e
      by_cases hl : v < (wipeR r vs).length
      · rw [List.getElem?_set_self hl]; exact .inr rfl
      · exact .inl (List.getElem?_eq_none (by simpa using hl))
    · rw [List.getElem?_set_ne e]
      exact wipeR_in ((List.mem_cons.mp h).elim (fun z => absurd z.symm e) id)
theorem wipeR_out {r : Ro} {j : Nat} : ∀ {vs : List Nat}, j ∉ vs → (wipeR r vs)[j]? = r[j]?
  | [], _ => rfl
  | v :: vs, h => by
    unfold wipeR
    rw [List.getElem?_set_ne fun e => h (by rw [e]; exact List.mem_cons_self ..)]
    exact wipeR_out fun z => h (List.mem_cons_of_mem _ z)
theorem wipe_in {sg : St} {j : Nat} : ∀ {vs : List Nat}, j ∈ vs → (wipe sg vs)[j]? = none ∨ (wipe sg vs)[j]? = some none
  | [], h => nomatch h
  | v :: vs, h => by
    unfold wipe
    by_cases e : v = j
    · subst e
      by_cases hl : v < (wipe sg vs).length
      · rw [List.getElem?_set_self hl]; exact .inr rfl
      · exact .inl (List.getElem?_eq_none (by simpa using hl))
    · rw [List.getElem?_set_ne e]
      exact wipe_in ((List.mem_cons.mp h).elim (fun z => absurd z.symm e) id)
theorem agree_wipe {sg sg' : St} {vs : List Nat} (h : Agree vs (wipe sg vs) sg') : wipe sg' vs = wipe sg vs := by
  apply List.ext_getElem?
  intro j
  by_cases hj : j ∈ vs
  · have l1 : (wipe sg' vs).length = (wipe sg vs).length := by rw [wipe_length, h.1]
    rcases wipe_in (sg := sg') hj with a | a <;> rcases wipe_in (sg := sg) hj with b | b
    · rw [a, b]
    · rw [List.getElem?_eq_none_iff] at a
      have := (List.getElem?_eq_some_iff.mp b).1
      omega
    · rw [List.getElem?_eq_none_iff] at b
      have := (List.getElem?_eq_some_iff.mp a).1
      omega
    · rw [a, b]
  · rw [wipe_out hj, h.2 j hj]
theorem backR_len (r0 r : Ro) : ∀ vs : List Nat, (backR r0 r vs).length = r.length
  | [] => rfl
  | v :: vs => by
    unfold backR
    split
    · rw [List.length_set, backR_len r0 r vs]
    · exact backR_len r0 r vs
theorem backR_out {r0 r : Ro} {j : Nat} : ∀ {vs : List Nat}, j ∉ vs → (backR r0 r vs)[j]? = r[j]?
  | [], _ => rfl
  | v :: vs, h => by
    have ih := backR_out (r0 := r0) (r := r) (j := j) (vs := vs) fun z => h (List.mem_cons_of_mem _ z)
    unfold backR
    split
    · rw [List.getElem?_set_ne fun e => h (by rw [e]; exact List.mem_cons_self ..)]; exact ih
    · exact ih
theorem backR_in {r0 r : Ro} {j : Nat} (hl : r0.length = r.length) : ∀ {vs : List Nat}, j ∈ vs → (backR r0 r vs)[j]? = r0[j]?
  | [], h => nomatch h
  | v :: vs, h => by
    have lb := backR_len r0 r vs
    unfold backR
    by_cases e : v = j
    · subst e
      split
      · rename_i s hs
        have := (List.getElem?_eq_some_iff.mp hs).1
        rw [List.getElem?_set_self (by omega), hs]
      · rename_i hs
        rw [hs, List.getElem?_eq_none_iff, lb, ← hl]
        exact List.getElem?_eq_none_iff.mp hs
    · have ih := backR_in (r0 := r0) (r := r) (j := j) hl (vs := vs) ((List.mem_cons.mp h).elim (fun z => absurd z.symm e) id)
      split
      · rw [List.getElem?_set_ne e]; exact ih
      · exact ih

section
variable {K : PySem.W.Frag} {H J H1 J1 : Hp} {sg sg1 : St} {r r1 : Ro} {fp fp1 : Nat → List Addr}
def fpW (fp : Nat → List Addr) (vs : List Nat) : Nat → List Addr := fun j => if j ∈ vs then [] else fp j
theorem fpW_in {vs : List Nat} {j : Nat} (h : j ∈ vs) : fpW fp vs j = [] := by unfold fpW; rw [if_pos h]
theorem fpW_out {vs : List Nat} {j : Nat} (h : j ∉ vs) : fpW fp vs j = fp j := by unfold fpW; rw [if_neg h]
theorem fpW_own {vs : List Nat} {b : Addr} (h : Own (fpW fp vs) b) : Own fp b := by
  obtain ⟨j, q⟩ := h
  by_cases hj : j ∈ vs
  · rw [fpW_in hj] at q; cases q
  · rw [fpW_out hj] at q; exact ⟨j, q⟩
theorem Wf.wipe (w : Wf K H J sg r fp) (vs : List Nat) : Wf K H J (L2.wipe sg vs) (wipeR r vs) (fpW fp vs) where
  same := w.same
  len := by rw [wipe_length, wipeR_len]; exact w.len
  rep := fun j s e ne => by
    by_cases hj : j ∈ vs
    · rcases wipeR_in (r := r) hj with z | z
      · rw [z] at e; cases e
      · rw [z] at e; cases e; exact absurd rfl ne
    · rw [wipeR_out hj] at e
      rw [wipe_out hj, fpW_out hj]
      exact w.rep j s e ne
  emp := fun j e => by
    by_cases hj : j ∈ vs
    · exact fpW_in hj
    · rw [wipeR_out hj] at e
      rw [fpW_out hj]
      exact w.emp j e
  dis := fun i j a h1 h2 => by
    by_cases hi : i ∈ vs
    · rw [fpW_in hi] at h1; cases h1
    · by_cases hj : j ∈ vs
      · rw [fpW_in hj] at h2; cases h2
      · rw [fpW_out hi] at h1; rw [fpW_out hj] at h2; exact w.dis i j a h1 h2
  jn := fun j a h1 => by
    by_cases hj : j ∈ vs
    · rw [fpW_in hj] at h1; cases h1
    · rw [fpW_out hj] at h1; exact w.jn j a h1
def fpB (fp fp1 : Nat → List Addr) (vs : List Nat) : Nat → List Addr := fun j => if j ∈ vs then fp j else fp1 j
theorem fpB_in {vs : List Nat} {j : Nat} (h : j ∈ vs) : fpB fp fp1 vs j = fp j := by unfold fpB; rw [if_pos h]
theorem fpB_out {vs : List Nat} {j : Nat} (h : j ∉ vs) : fpB fp fp1 vs j = fp1 j := by unfold fpB; rw [if_neg h]
theorem Wf.back (w : Wf K H J sg r fp) {vs : List Nat} (w1 : Wf K H1 J1 sg1 r1 fp1) (ag : Agree vs (L2.wipe sg vs) sg1) {F : Addr → Prop} (t : Step (Own (fpW fp vs)) H J F H1 J1) (hF : ∀ b, Own fp1 b → F b) :
    Wf K H1 J1 sg (backR r r1 vs) (fpB fp fp1 vs) ∧ ∀ b, Own (fpB fp fp1 vs) b → F b ∨ Own fp b := by
  have hl : r.length = r1.length := by rw [← w.len, ← w1.len, ag.1, wipe_length]
  have apart : ∀ i b, i ∈ vs → b ∈ fp i → ¬ Own (fpW fp vs) b := fun i b hi hb ⟨j, q⟩ => by
    by_cases hj : j ∈ vs
    · rw [fpW_in hj] at q; cases q
    · rw [fpW_out hj] at q
      have := w.dis i j b hb q
      rw [this] at hi
      exact hj hi
  have offF : ∀ i b, i ∈ vs → b ∈ fp i → J1 b = none ∧ ¬ F b := fun i b hi hb => t.off (w.jn i b hb).1 (apart i b hi hb) (w.jn i b hb).2
  refine ⟨⟨w1.same, ?_, fun j s e ne => ?_, fun j e => ?_, fun i j b h1 h2 => ?_, fun j b h1 => ?_⟩, fun b ⟨j, q⟩ => ?_⟩
  · rw [backR_len, ← hl]; exact w.len
  · by_cases hj : j ∈ vs
    · rw [backR_in hl hj] at e
      rw [fpB_in hj]
      obtain ⟨v, hv, q⟩ := w.rep j s e ne
      exact ⟨v, hv, q.step t fun b hb => apart j b hj hb⟩
    · rw [backR_out hj] at e
      rw [fpB_out hj]
      obtain ⟨v, hv, q⟩ := w1.rep j s e ne
      rw [ag.2 j hj, wipe_out hj] at hv
      exact ⟨v, hv, q⟩
  · by_cases hj : j ∈ vs
    · rw [backR_in hl hj] at e
      rw [fpB_in hj]
      exact w.emp j e
    · rw [backR_out hj] at e
      rw [fpB_out hj]
      exact w1.emp j e
  · by_cases hi : i ∈ vs
    · by_cases hj : j ∈ vs
      · rw [fpB_in hi] at h1; rw [fpB_in hj] at h2; exact w.dis i j b h1 h2
      · rw [fpB_in hi] at h1; rw [fpB_out hj] at h2; exact absurd (hF b ⟨j, h2⟩) (offF i b hi h1).2
    · by_cases hj : j ∈ vs
      · rw [fpB_out hi] at h1; rw [fpB_in hj] at h2; exact absurd (hF b ⟨i, h1⟩) (offF j b hj h2).2
      · rw [fpB_out hi] at h1; rw [fpB_out hj] at h2; exact w1.dis i j b h1 h2
  · by_cases hj : j ∈ vs
    · rw [fpB_in hj] at h1
      obtain ⟨o, ho, hnt⟩ := (w.jn j b h1).2
      exact ⟨(offF j b hj h1).1, o, t.fr b o ho (apart j b hj h1), hnt⟩
    · rw [fpB_out hj] at h1; exact w1.jn j b h1
  · by_cases hj : j ∈ vs
    · rw [fpB_in hj] at q; exact .inr ⟨j, q⟩
    · rw [fpB_out hj] at q; exact .inl (hF b ⟨j, q⟩)
end

inductive Lks (K : PySem.W.Frag) (H J : Hp) (fp : Nat → List Addr) (sg : St) : List Lk → List Addr → Prop
  | nil : Lks K H J fp sg [] []
  | cons {i : Nat} {s : Slot} {v : V} {g gs : List Addr} {ls : List Lk} : sg[i]? = some (some v) → RepS K H J s v g → (∀ b ∈ g, J b = none ∧ ¬ Own fp b) → (∀ b ∈ g, b ∉ gs) → Lks K H J fp sg ls gs → Lks K H J fp sg ((i, s) :: ls) (g ++ gs)
section
variable {K : PySem.W.Frag} {H J H1 J1 : Hp} {sg sg1 : St} {fp fp1 : Nat → List Addr}
theorem Lks.off : ∀ {ls : List Lk} {gs : List Addr}, Lks K H J fp sg ls gs → ∀ b ∈ gs, J b = none ∧ ¬ Own fp b ∧ Held H b
  | _, _, .nil, b, q => nomatch q
  | _, _, .cons _ h n _ k, b, q => (List.mem_append.mp q).elim (fun q => ⟨(n b q).1, (n b q).2, h.there b q⟩) (k.off b)
theorem Lks.stepG {F F' : Addr → Prop} (t : Step F H J F' H1 J1) (hF' : ∀ b, Own fp1 b → F' b) : ∀ {ls : List Lk} {gs : List Addr}, Lks K H J fp sg ls gs → (∀ b ∈ gs, ¬ F b) → Lks K H1 J1 fp1 sg ls gs
  | _, _, .nil, _ => .nil
  | _, _, .cons h1 h n m k, hF => .cons h1 (h.step t fun b q => hF b (List.mem_append.mpr (.inl q))) (fun b q => by
      have z := t.off (n b q).1 (hF b (List.mem_append.mpr (.inl q))) (h.there b q)
      exact ⟨z.1, fun y => z.2 (hF' b y)⟩) m (k.stepG t hF' fun b q => hF b (List.mem_append.mpr (.inr q)))
theorem Lks.weak (m : ∀ b, Own fp1 b → Own fp b) : ∀ {ls : List Lk} {gs : List Addr}, Lks K H J fp sg ls gs → Lks K H J fp1 sg ls gs
  | _, _, .nil => .nil
  | _, _, .cons h1 h n d k => .cons h1 h (fun b q => ⟨(n b q).1, fun z => (n b q).2 (m b z)⟩) d (k.weak m)
theorem Lks.agree {ws : List Nat} (ag : Agree ws sg sg1) : ∀ {ls : List Lk} {gs : List Addr}, (∀ p ∈ ls, p.1 ∉ ws) → Lks K H J fp sg ls gs → Lks K H J fp sg1 ls gs
  | _, _, _, .nil => .nil
  | _, _, hx, .cons h1 h n m k => .cons (by rw [ag.2 _ (hx _ (List.mem_cons_self ..))]; exact h1) h n m (k.agree ag fun p q => hx p (List.mem_cons_of_mem _ q))
theorem Lks.unlock : ∀ {ls : List Lk} {gs : List Addr} {r : Ro}, Lks K H J fp sg ls gs → Wf K H J sg r fp → ∃ fp', Wf K H J sg (unlks ls r) fp' ∧ ∀ b, Own fp' b → Own fp b ∨ b ∈ gs
  | _, _, r, .nil, w => ⟨fp, w, fun b q => .inl q⟩
  | _, _, r, .cons (i := i) (s := s) (v := v) (g := g) (gs := gs) (ls := ls) h1 h2 h4 n k, w => by
    obtain ⟨fp', w', o'⟩ := k.unlock w
    have hi : i < (unlks ls r).length := by
      rw [← w'.len]
      exact (List.getElem?_eq_some_iff.mp h1).1
    refine ⟨fpSet fp' i g, w'.putKeep hi h1 h2 fun b q => ⟨(h4 b q).1, fun j _ z => ?_⟩, fun b q => ?_⟩
    · rcases o' b ⟨j, z⟩ with y | y
      · exact (h4 b q).2 y
      · exact n b q y
    · rcases own_set q with y | y
      · exact .inr (List.mem_append.mpr (.inl y))
      · exact (o' b y).imp id fun z => List.mem_append.mpr (.inr z)
theorem Lks.app : ∀ {ls ms : List Lk} {gs hs : List Addr}, Lks K H J fp sg ls gs → Lks K H J fp sg ms hs → (∀ b ∈ gs, b ∉ hs) → Lks K H J fp sg (ls ++ ms) (gs ++ hs)
  | _, _, _, _, .nil, k, _ => k
  | _, _, _, _, .cons h1 h n m k, k2, hd => by
    rw [List.append_assoc]
    refine .cons h1 h n (fun b q z => ?_) (k.app k2 fun b q => hd b (List.mem_append.mpr (.inr q)))
    rcases List.mem_append.mp z with z | z
    · exact m b q z
    · exact hd b (List.mem_append.mpr (.inl q)) z

def Std (K : PySem.W.Frag) (g : List Addr) (H J : Hp) (v : V) (d : PyData) : Prop := Sh K J v d ∨ ∃ a xs ds, v = .ref a ∧ d = .list ds ∧ a ∈ g ∧ H a = some (.lst xs) ∧ ShAll K J xs ds
inductive Stds (K : PySem.W.Frag) (g : List Addr) (H J : Hp) : List V → List PyData → Prop
  | nil : Stds K g H J [] []
  | cons {v : V} {vs : List V} {d : PyData} {ds : List PyData} : Std K g H J v d → Stds K g H J vs ds → Stds K g H J (v :: vs) (d :: ds)
theorem Std.mono {g g' : List Addr} {v : V} {d : PyData} (h : Std K g H J v d) (m : ∀ b ∈ g, b ∈ g') : Std K g' H J v d := h.imp id fun ⟨a, xs, ds, h1, h2, h3, h4⟩ => ⟨a, xs, ds, h1, h2, m _ h3, h4⟩
theorem Stds.mono {g g' : List Addr} (m : ∀ b ∈ g, b ∈ g') : ∀ {vs : List V} {ds : List PyData}, Stds K g H J vs ds → Stds K g' H J vs ds
  | _, _, .nil => .nil
  | _, _, .cons h k => .cons (h.mono m) (k.mono m)
theorem Std.keep {g : List Addr} {v : V} {d : PyData} {F F' : Addr → Prop} (h : Std K g H J v d) (t : Step F H J F' H1 J1) (n : ∀ b ∈ g, ¬ F b) : Std K g H1 J1 v d := by
  rcases h with h | ⟨a, xs, ds, h1, h2, h3, h4, h5⟩
  · exact .inl (shMono t.js h)
  · exact .inr ⟨a, xs, ds, h1, h2, h3, t.fr a _ h4 (n a h3), shsMono t.js h5⟩
theorem Std.list {g : List Addr} {v : V} {ds : List PyData} (sm : Same J H) (h : Std K g H J v (.list ds)) : ∃ a xs, v = .ref a ∧ SqL K H a xs ∧ ShAll K J xs ds := by
  rcases h with h | ⟨a, xs, es, e1, e, _, h1, h2⟩
  · cases h with
    | lst h g => exact ⟨_, _, rfl, .of (sm _ _ h), g⟩
  · cases e; exact ⟨a, xs, e1, .of h1, h2⟩
theorem Std.tuple {g : List Addr} {v : V} {ds : List PyData} (sm : Same J H) (h : Std K g H J v (.tuple ds)) : ∃ a xs, v = .ref a ∧ SqT K H a xs ∧ ShAll K J xs ds := by
  rcases h with h | ⟨a, xs, es, e1, e, _, h1, h2⟩
  · cases h with
    | tup h g => exact ⟨_, _, rfl, .of (sm _ _ h), g⟩
  · cases e
theorem lk1_ok {r : Ro} {o : Od} {v : V} {g : List Addr} {d : PyData} {l : List Lk} {r1 : Ro} (w : Wf K H J sg r fp) (h : OdR K H J fp sg o v g) (e : lk1 r o = some (d, l, r1)) :
    ∃ fp1 gs, Wf K H J sg r1 fp1 ∧ Lks K H J fp1 sg l gs ∧ Std K gs H J v d ∧ (∀ b, Own fp1 b ∨ b ∈ gs → Own fp b) := by
  cases o with
  | tm s => cases e
  | da d' => cases e; exact ⟨fp, [], w, .nil, .inl h.2, fun b q => q.elim id fun q => nomatch q⟩
  | pl i =>
    simp only [lk1] at e
    split at e
    · rename_i d' ed
      cases e
      obtain ⟨v', hv, q⟩ := w.rep i _ ed (fun z => nomatch z)
      rw [h.2] at hv
      cases hv
      exact ⟨fp, [], w, .nil, .inl q.2, fun b q => q.elim id fun q => nomatch q⟩
    · rename_i ds ed
      cases e
      obtain ⟨v', hv, q⟩ := w.rep i _ ed (fun z => nomatch z)
      rw [h.2] at hv
      cases hv
      have q0 := q
      obtain ⟨a, xs, rfl, hg, ha, hd⟩ := q0
      refine ⟨fpSet fp i [], fp i ++ [], w.drop i, .cons h.2 q (fun b z => ⟨(w.jn i b z).1, own_wipe_ne w z⟩) (fun _ _ z => nomatch z) .nil, .inr ⟨a, xs, ds, rfl, rfl, by rw [hg]; simp, ha, hd⟩, fun b q => ?_⟩
      rcases q with q | q
      · exact own_wipe q
      · exact ⟨i, by simpa using q⟩
    · cases e
theorem lks_ok : ∀ {x : List Od} {vs : List V} {gs0 : List Addr} {r : Ro} {fp : Nat → List Addr} {ds : List PyData} {ls : List Lk} {r2 : Ro}, Wf K H J sg r fp → Ods K H J fp sg x vs gs0 → (∀ p ∈ x, (∃ i, p = Od.pl i) ∨ ∃ d, p = Od.da d) → lks x r = some (ds, ls, r2) →
    ∃ fp2 gs, Wf K H J sg r2 fp2 ∧ Lks K H J fp2 sg ls gs ∧ Stds K gs H J vs ds ∧ (∀ b, Own fp2 b ∨ b ∈ gs → Own fp b)
  | _, _, _, r, fp, ds, ls, r2, w, .nil, _, e => by
    simp only [lks] at e
    cases e
    exact ⟨fp, [], w, .nil, .nil, fun b q => q.elim id fun q => nomatch q⟩
  | _, _, _, r, fp, ds, ls, r2, w, .cons (o := o) (x := x) (v := v) (vs := vs) (gs := gs) h nn k, hp, e => by
    simp only [lks] at e
    cases e1 : lk1 r o with
    | none => rw [e1] at e; cases e
    | some p =>
      obtain ⟨d, l, r1⟩ := p
      rw [e1] at e
      simp only at e
      cases e2 : lks x r1 with
      | none => rw [e2] at e; cases e
      | some p2 =>
        obtain ⟨ds', ls', r2'⟩ := p2
        rw [e2] at e
        cases e
        obtain ⟨fp1, g1, w1, l1, s1, o1⟩ := lk1_ok w h e1
        have k' : Ods K H J fp1 sg x vs gs := by
          clear e2 e1 h s1 nn
          have hp' := fun p q => hp p (List.mem_cons_of_mem _ q)
          clear hp
          induction k with
          | nil => exact .nil
          | cons h n k ih =>
            refine .cons ?_ n (ih fun p q => hp' p (List.mem_cons_of_mem _ q))
            rcases hp' _ (List.mem_cons_self ..) with ⟨i, rfl⟩ | ⟨d, rfl⟩ <;> exact h
        obtain ⟨fp2, g2, w2, l2, s2, o2⟩ := lks_ok w1 k' (fun p q => hp p (List.mem_cons_of_mem _ q)) e2
        have off1 := l1.off
        have l1' : Lks K H J fp2 sg l g1 := l1.weak fun b z => o2 b (.inl z)
        refine ⟨fp2, g1 ++ g2, w2, l1'.app l2 fun b q z => (off1 b q).2.1 (o2 b (.inr z)), .cons (s1.mono fun b q => List.mem_append.mpr (.inl q)) (s2.mono fun b q => List.mem_append.mpr (.inr q)), fun b q => ?_⟩
        rcases q with q | q
        · exact o1 b (.inl (o2 b (.inl q)))
        · rcases List.mem_append.mp q with q | q
          · exact o1 b (.inr q)
          · exact o1 b (.inl (o2 b (.inr q)))
end

structure Walks (K : PySem.W.Frag) (T : It) (items : List PyData) (S : Hp → Hp → Prop) : Prop where
  go : ∀ i H J, Same J H → S H J → i < items.length → T.go i H
  stop : ∀ i H J, Same J H → S H J → items.length ≤ i → i ≤ items.length → T.stop i H
  yld : ∀ i H J v H', Same J H → S H J → i < items.length → T.yld i H v H' → ∃ J' d, items[i]? = some d ∧ Sh K J' v d ∧ Same J' H' ∧ S H' J' ∧ Step (fun _ => False) H J (fun _ => False) H' J'

section
variable {K : PySem.W.Frag}
theorem rngL_len (lo : Int) (n : Nat) : (rngL lo n).length = n := by simp [rngL]
theorem rngL_get (lo : Int) (n i : Nat) (h : i < n) : (rngL lo n)[i]? = some (.int (lo + (i : Int))) := by simp [rngL, h]
theorem walks_rng {lo : Int} {n : Nat} : Walks K (Itr lo n) (rngL lo n) (fun _ _ => True) where
  go := fun i H J sm s h => by rw [rngL_len] at h; exact h
  stop := fun i H J sm s h _ => by rw [rngL_len] at h; exact h
  yld := fun i H J v H' sm s h y => by
    obtain ⟨e, y⟩ := y
    subst e y
    rw [rngL_len] at h
    exact ⟨J, _, rngL_get lo n i h, .int _, sm, trivial, Step.refl⟩
theorem rngD_len (lo : Int) (n : Nat) : (rngD lo n).length = n := by simp [rngD]
theorem rngD_get (lo : Int) (n i : Nat) (h : i < n) : (rngD lo n)[i]? = some (.int (lo + (i : Int) * (-1))) := by simp [rngD, h]
theorem walks_rngD {lo : Int} {n : Nat} : Walks K (Itc lo (-1) n) (rngD lo n) (fun _ _ => True) where
  go := fun i H J sm s h => by rw [rngD_len] at h; exact h
  stop := fun i H J sm s h _ => by rw [rngD_len] at h; exact h
  yld := fun i H J v H' sm s h y => by
    obtain ⟨e, y⟩ := y
    subst e y
    rw [rngD_len] at h
    exact ⟨J, _, rngD_get lo n i h, .int _, sm, trivial, Step.refl⟩
theorem rng3I_cases (d e f : PyData) (r : Ro) : rng3I d e f r = .bad ∨ ∃ m n : Int, d = .int m ∧ e = .int n ∧ f = .int (-1) ∧ in62 m = true ∧ in62 n = true ∧ (m - n).toNat ≤ 16777216 ∧ rng3I d e f r = .ok (rngD m (m - n).toNat, []) r := by
  unfold rng3I
  split
  · rename_i m n k
    split
    · rename_i h
      simp only [Bool.and_eq_true, decide_eq_true_eq] at h
      obtain ⟨⟨⟨rfl, h1⟩, h2⟩, h3⟩ := h
      exact .inr ⟨m, n, rfl, rfl, rfl, h1, h2, of_decide_eq_true h3, rfl⟩
    · exact .inl rfl
  · exact .inl rfl
end

section
variable (K : PySem.W.Frag) (W : WX) (Phi : Nat → Ro → FR)
def Keeps (g : List Addr) (S : Hp → Hp → Prop) : Prop := ∀ F F' H J H' J', S H J → Step F H J F' H' J' → (∀ b ∈ g, ¬ F b) → S H' J'
def FinI (sg : St) (H J : Hp) (fp : Nat → List Addr) (x : R (List PyData × List Lk)) (Q : It → Hp → Prop) : Prop := match x with
  | .ok a r' => ∀ T S H' J' fp' g, Wf K H' J' sg r' fp' → Walks K T a.1 S → S H' J' → Keeps g S → Lks K H' J' fp' sg a.2 g → a.1.length ≤ sizeLine → Step (Own fp) H J (fun b => Own fp' b ∨ b ∈ g) H' J' → Q T H'
  | .ex c fs r' => ∀ H' J' fp' cls d, Wf K H' J' sg r' fp' → XRep K H' J' c fs cls d → Step (Own fp) H J (Own fp') H' J' → W cls d sg H'
  | .bad => False
def tI (it : CI) : TI := fun sg H Q => ∃ J r fp, Wf K H J sg r fp ∧ FinI K W sg H J fp (evI Phi it r) Q
end
end Ev
end

section
set_option Elab.async false
set_option linter.all false
set_option maxRecDepth 100000
set_option maxHeartbeats 4000000
namespace Ev
open PySem L2
variable [Errs]

section
variable (K : PySem.W.Frag) (W : WX) (Phi : Nat → Ro → FR)
def FinB (sg : St) (H J : Hp) (fp : Nat → List Addr) (x : R Bool) (Q : Bool → Hp → Prop) : Prop := match x with
  | .ok b r' => ∀ H' J' fp', Wf K H' J' sg r' fp' → Step (Own fp) H J (Own fp') H' J' → Q b H'
  | .ex c fs r' => ∀ H' J' fp' cls d, Wf K H' J' sg r' fp' → XRep K H' J' c fs cls d → Step (Own fp) H J (Own fp') H' J' → W cls d sg H'
  | .bad => False
def tTr (c : CE) : TT := fun sg H Q => ∃ J r fp, Wf K H J sg r fp ∧ FinB K W sg H J fp (ev Phi c r).truth Q
def tCs (c : CEs) : TT := fun sg H Q => ∃ J r fp, Wf K H J sg r fp ∧ FinB K W sg H J fp (evC Phi c r) Q
end

section
variable {K : PySem.W.Frag} {W : WX} {sg : St} {H J H1 J1 : Hp} {fp fp1 : Nat → List Addr} {Phi : Nat → Ro → FR}
theorem step_upd {D : Addr} {o : HO} : Step (fun b => b = D) H J (fun b => b = D) (upd H D o) J where
  js := Same.refl _
  fr := fun b u e n => by rw [upd_ne n]; exact e
  fn := fun _ h => .inl h
  jg := fun _ h => .inl h
theorem same_updN {D : Addr} {o : HO} (sm : Same J H) (hD : J D = none) : Same J (upd H D o) := fun b u e => by
  rw [upd_ne (ne_of_none e hD)]
  exact sm b u e
theorem comp_noex (step : PyData → Ro → R (Option PyData)) : ∀ (ds acc : List PyData) (r : Ro) (c : Nat) (fs : List (PyData × PyData)) (r' : Ro), comp step ds acc r ≠ .ex c fs r'
  | [], acc, r, c, fs, r', h => by simp only [comp] at h; cases h
  | d :: ds, acc, r, c, fs, r', h => by
    simp only [comp] at h
    split at h
    · exact comp_noex step ds _ _ _ _ _ h
    · exact comp_noex step ds _ _ _ _ _ h
    · cases h
    · cases h
abbrev W0 : WX := fun _ _ _ _ => False

theorem lc_read {elt : CE} {tg : CT} {it : CI} {cond : CEs} {own : List (Str × Nat)} {Q : V → Hp → Prop} (hso : ∀ j ∈ slotsT tg, j ∈ own.map (·.2)) (h : tEv K W Phi (.lc elt tg it cond own) sg H Q) :
    tLc (tI K W Phi it) (tT K tg) (tCs K W0 Phi cond) (tSh K W0 Phi elt) (own.map (·.2)) sg H Q := by
  obtain ⟨J, r, fp, w, f⟩ := h
  refine ⟨J, r, fp, w, ?_⟩
  simp only [ev] at f
  cases e : evI Phi it r with
  | bad => rw [e] at f; exact f
  | ex c fs r1 => rw [e] at f; exact f
  | ok a r1 =>
    obtain ⟨items, lks⟩ := a
    rw [e] at f
    simp only [R.ok_bind] at f
    intro T S H1 J1 fp1 g w1 wk s1 kp o1 hlen t1 D hD
    simp only at o1 hlen wk
    generalize hvs : own.map (·.2) = ws at *
    generalize hst : (fun d q => match asg tg d (wipeR q ws) with
        | some q1 => (evC Phi cond q1).bind fun b q2 => if b = true then (ev Phi elt q2).sh.bind fun y q3 => R.ok (some y) (backR q q3 ws) else R.ok none (backR q q2 ws)
        | none => R.bad) = step at f
    have f' : Fin K W (RepS K) sg H J fp ((comp step items [] r1).bind fun ys r2 => R.ok (Slot.lst ys) (unlks lks r2)) Q := f
    clear f
    cases ec : comp step items [] r1 with
    | bad => rw [ec] at f'; exact f'.elim
    | ex c fs r2 => exact absurd ec (comp_noex step items [] r1 c fs r2)
    | ok ys r2 =>
      rw [ec] at f'
      have f2 : Fin K W (RepS K) sg H J fp (R.ok (Slot.lst ys) (unlks lks r2)) Q := f'
      clear f'
      have hnone : J1 D = none := by
        cases q : J1 D with
        | none => rfl
        | some o => rw [w1.same _ _ q] at hD; cases hD
      have nD : ∀ b, Own fp1 b → b ≠ D := fun b ⟨j, q⟩ z => by
        obtain ⟨o, ho, _⟩ := (w1.jn j b q).2
        rw [z, hD] at ho; cases ho
      have gD : ∀ b ∈ g, b ≠ D := fun b q z => by
        obtain ⟨_, _, o, ho, _⟩ := o1.off b q
        rw [z, hD] at ho; cases ho
      refine ⟨fun i m H => m = items.length - i ∧ i ≤ items.length ∧ ∃ J r fp acc ad, Wf K H J sg r fp ∧ S H J ∧ Lks K H J fp sg lks g ∧ H D = some (.lst acc) ∧ ShAll K J acc ad ∧ acc.length ≤ i ∧ ¬ Own fp D ∧ J D = none ∧
          Step (fun b => Own fp1 b ∨ b ∈ g) H1 J1 (fun b => Own fp b ∨ b ∈ g ∨ b = D) H J ∧ comp step (items.drop i) ad r = .ok ys r2, ⟨_, rfl, Nat.zero_le _, J1, r1, fp1, [], [], ?_, ?_, ?_, upd_same, .nil, Nat.zero_le _, fun z => nD D z rfl, hnone, ?_, ec⟩, ?_⟩
      · exact w1.newOwn hD
      · exact kp _ _ _ _ _ _ s1 (step_own (F := fun _ => False) hD) fun _ _ z => z
      · exact Lks.stepG (step_own (F := Own fp1) hD) (fun b z => .inl z) o1 fun b q z => (o1.off b q).2.1 z
      · have st : Step (fun b => Own fp1 b ∨ b ∈ g) H1 J1 (fun b => (Own fp1 b ∨ b ∈ g) ∨ b = D) (upd H1 D (.lst [])) J1 := step_own hD
        exact st.weak fun b z => z.elim (fun z => .inl (.inl z)) fun z => z.elim (fun z => .inl (.inr z)) .inr
      · rintro i m H0 ⟨rfl, hi, J0, r0, fp0, acc, ad, w0, s0, o0, hD0, ha0, hl0, nO0, jD0, st0, ec0⟩
        by_cases hlt : i < items.length
        · refine .inr ⟨wk.go i H0 J0 w0.same s0 hlt, fun H' => _, fun H' q => ⟨items.length - (i + 1), by omega, q⟩, fun x H2 hy => ?_⟩
          obtain ⟨J2, d, hd, hx, sm2, s2, t2⟩ := wk.yld i H0 J0 x H2 w0.same s0 hlt hy
          have edrop : items.drop i = d :: items.drop (i + 1) := by
            rw [List.drop_eq_getElem_cons hlt]
            have := (List.getElem?_eq_some_iff.mp hd).2
            rw [this]
          rw [edrop] at ec0
          simp only [comp] at ec0
          have w2 : Wf K H2 J2 sg r0 fp0 := w0.step t2 sm2 fun _ _ z => z
          have hD2 : H2 D = some (.lst acc) := t2.fr D _ hD0 id
          have jD2 := (t2.off jD0 id ⟨_, hD0, fun _ z => nomatch z⟩).1
          have o2 : Lks K H2 J2 fp0 sg lks g := by
            have t2' : Step (Own fp0) H0 J0 (Own fp0) H2 J2 := ⟨t2.js, fun b o q _ => t2.fr b o q id, fun b q => .inl q, fun b q => (t2.jg b q).imp id fun z => z.imp False.elim id⟩
            exact Lks.stepG t2' (fun _ z => z) o0 fun b q => (o0.off b q).2.1
          have gO : ∀ b ∈ g, ¬ Own fp0 b := fun b q => (o2.off b q).2.1
          have wW := w2.wipe ws
          cases ea : asg tg d (wipeR r0 ws) with
          | none =>
            rw [← hst] at ec0
            simp only [ea] at ec0
            cases ec0
          | some q1 =>
            have hstep : step d r0 = (evC Phi cond q1).bind fun b q2 => if b = true then (ev Phi elt q2).sh.bind fun y q3 => R.ok (some y) (backR r0 q3 ws) else R.ok none (backR r0 q2 ws) := by
              rw [← hst]; simp only [ea]
            rw [hstep] at ec0
            refine asg_ok ea wW hx fun sg3 fp3 w3 own3 ag3 => ?_
            have ag3' : Agree ws (L2.wipe sg ws) sg3 := ag3.mono hso
            refine ⟨agree_wipe ag3', J2, q1, fp3, w3, ?_⟩
            /- what holds at the turn's end -/
            have fin : ∀ {H4 J4 : Hp} {fp4 : Nat → List Addr} {q4 : Ro}, Wf K H4 J4 sg3 q4 fp4 → Step (Own fp3) H2 J2 (Own fp4) H4 J4 → ∀ {acc' : List V} {ad' : List PyData}, ShAll K J4 acc' ad' → acc'.length ≤ i + 1 → comp step (items.drop (i + 1)) ad' (backR r0 q4 ws) = .ok ys r2 →
                ∃ J r fp acc ad, Wf K (upd H4 D (.lst acc')) J sg r fp ∧ S (upd H4 D (.lst acc')) J ∧ Lks K (upd H4 D (.lst acc')) J fp sg lks g ∧ (upd H4 D (.lst acc')) D = some (.lst acc) ∧ ShAll K J acc ad ∧ acc.length ≤ i + 1 ∧ ¬ Own fp D ∧ J D = none ∧
                  Step (fun b => Own fp1 b ∨ b ∈ g) H1 J1 (fun b => Own fp b ∨ b ∈ g ∨ b = D) (upd H4 D (.lst acc')) J ∧ comp step (items.drop (i + 1)) ad r = .ok ys r2 := by
              intro H4 J4 fp4 q4 w4 t4 acc' ad' ha' hl' ec'
              have t4' : Step (Own (fpW fp0 ws)) H2 J2 (Own fp4) H4 J4 := t4.widen own3
              obtain ⟨w5, own5⟩ := w2.back w4 ag3' t4' fun b z => z
              have nD4 := t4'.off jD2 (fun z => nO0 (fpW_own z)) ⟨_, hD2, fun _ z => nomatch z⟩
              have nO5 : ¬ Own (fpB fp0 fp4 ws) D := fun z => (own5 D z).elim nD4.2 nO0
              have jD4 := nD4.1
              have t5 : Step (fun b => b = D) H4 J4 (fun b => b = D) (upd H4 D (.lst acc')) J4 := step_upd
              have t24 : Step (fun b => Own fp0 b ∨ b = D) H2 J2 (fun b => Own (fpB fp0 fp4 ws) b ∨ b = D) (upd H4 D (.lst acc')) J4 := by
                refine ⟨t4'.js, fun b o q n => ?_, fun b q => ?_, fun b q => ?_⟩
                · rw [upd_ne fun z => n (.inr z)]
                  exact t4'.fr b o q fun z => n (.inl (fpW_own z))
                · rcases q with q | q
                  · rcases own5 b q with z | z
                    · exact (t4'.fn b z).imp (fun z => .inl (fpW_own z)) id
                    · exact .inl (.inl z)
                  · exact .inl (.inr q)
                · exact (t4'.jg b q).imp id fun z => z.imp (fun z => .inl (fpW_own z)) id
              have gF : ∀ b ∈ g, ¬ (Own fp0 b ∨ b = D) := fun b q z => z.elim (gO b q) (gD b q)
              refine ⟨J4, backR r0 q4 ws, fpB fp0 fp4 ws, acc', ad', w5.step t5 (same_updN w4.same jD4) (fun b z y => nO5 (by rw [← y]; exact z)), kp _ _ _ _ _ _ s2 t24 gF, Lks.stepG t24 (fun b z => .inl z) o2 gF, upd_same, ha', hl', nO5, jD4, ?_, ec'⟩
              have t02 : Step (fun b => Own fp0 b ∨ b ∈ g ∨ b = D) H0 J0 (fun b => Own fp0 b ∨ b ∈ g ∨ b = D) H2 J2 := ⟨t2.js, fun b o q _ => t2.fr b o q id, fun b q => .inl q, fun b q => (t2.jg b q).imp id fun z => z.imp False.elim id⟩
              refine (st0.trans t02).trans ⟨t24.js, fun b o q n => t24.fr b o q fun z => n (z.elim .inl fun z => .inr (.inr z)), fun b q => ?_, fun b q => (t24.jg b q).imp id fun z => z.imp (fun z => z.elim .inl fun z => .inr (.inr z)) id⟩
              rcases q with q | q | q
              · exact (t24.fn b (.inl q)).imp (fun z => z.elim .inl fun z => .inr (.inr z)) id
              · exact .inl (.inr (.inl q))
              · exact .inl (.inr (.inr q))
            cases e1 : evC Phi cond q1 with
            | bad => rw [e1] at ec0; cases ec0
            | ex c fs q2 => rw [e1] at ec0; cases ec0
            | ok b q2 =>
              rw [e1] at ec0
              intro H3 J3 fpc w3c t3c
              have nDc := (t3c.widen own3).off jD2 (fun z => nO0 (fpW_own z)) ⟨_, hD2, fun _ z => nomatch z⟩
              have hD3 : H3 D = some (.lst acc) := (t3c.widen own3).fr D _ hD2 fun z => nO0 (fpW_own z)
              cases b with
              | false =>
                simp only [R.bind, Bool.false_eq_true, if_false] at ec0
                rw [if_neg Bool.false_ne_true]
                have q := fin w3c t3c (shsMono (t2.js.trans t3c.js) ha0) (by omega) ec0
                have eH : upd H3 D (.lst acc) = H3 := by
                  funext b
                  by_cases z : b = D
                  · rw [z, upd_same, hD3]
                  · rw [upd_ne z]
                rw [eH] at q
                exact ⟨rfl, hlt, q⟩
              | true =>
                rw [if_pos rfl]
                simp only [R.bind, if_true] at ec0
                refine ⟨J3, q2, fpc, w3c, ?_⟩
                cases e2 : (ev Phi elt q2).sh with
                | bad => rw [e2] at ec0; cases ec0
                | ex c fs q3 => rw [e2] at ec0; cases ec0
                | ok yd q3 =>
                  rw [e2] at ec0
                  intro v H4 J4 fp4 g4 w4 hy _ t4
                  obtain ⟨rfl, hy⟩ := hy
                  have t4' := step_nil t4
                  have t34 := t3c.trans t4'
                  refine ⟨acc, (t34.widen own3).fr D _ hD2 fun z => nO0 (fpW_own z), by omega, rfl, hlt, ?_⟩
                  exact fin w4 t34 (shsApp (shsMono ((t2.js.trans t3c.js).trans t4'.js) ha0) (.cons hy .nil)) (by rw [List.length_append, List.length_singleton]; omega) ec0
        · have ei : i = items.length := by omega
          refine .inl ⟨wk.stop i H0 J0 w0.same s0 (by omega) (by omega), ?_⟩
          rw [ei, List.drop_length] at ec0
          simp only [comp] at ec0
          cases ec0
          obtain ⟨fp3, w3, own3⟩ := o0.unlock w0
          refine f2 (.ref D) H0 J0 fp3 [D] w3 ⟨D, acc, rfl, rfl, hD0, ha0⟩ (fun b q => ?_) ?_
          · cases List.mem_singleton.mp q
            refine ⟨jD0, fun z => (own3 D z).elim nO0 fun z => gD D z rfl⟩
          · refine t1.trans (st0.weak fun b q => ?_)
            rcases q with q | q
            · exact (own3 b q).elim .inl fun z => .inr (.inl z)
            · exact .inr (.inr (List.mem_singleton.mp q))
end
end Ev
end

section
set_option Elab.async false
set_option linter.all false
set_option maxRecDepth 100000
set_option maxHeartbeats 4000000
namespace Ev
open PySem L2
variable [Errs]

def fpC (g : List Addr) (fp : Nat → List Addr) : Nat → List Addr
  | 0 => g
  | j + 1 => fp j
section
variable {K : PySem.W.Frag} {H J H1 J1 : Hp} {sg : St} {r : Ro} {fp fp1 : Nat → List Addr}
theorem Wf.nil (sm : Same J H) : Wf K H J [] [] (fun _ => []) := ⟨sm, rfl, fun i s e => by simp at e, fun _ _ => rfl, (fun _ _ _ h => nomatch h), (fun _ _ h => nomatch h)⟩
theorem Wf.cons {s : Slot} {v : V} {g : List Addr} (w : Wf K H J sg r fp) (hs : RepS K H J s v g) (hg : ∀ b ∈ g, J b = none ∧ ¬ Own fp b) : Wf K H J (some v :: sg) (s :: r) (fpC g fp) where
  same := w.same
  len := by rw [List.length_cons, List.length_cons, w.len]
  rep := fun i t e ne => by
    cases i with
    | zero => simp at e; subst e; exact ⟨v, rfl, hs⟩
    | succ i => exact w.rep i t (by simpa using e) ne
  emp := fun i e => by
    cases i with
    | zero =>
      simp at e
      subst e
      exact hs.elim
    | succ i => exact w.emp i (by simpa using e)
  dis := fun i j a h1 h2 => by
    cases i with
    | zero =>
      cases j with
      | zero => rfl
      | succ j => exact absurd ⟨j, h2⟩ (hg a h1).2
    | succ i =>
      cases j with
      | zero => exact absurd ⟨i, h1⟩ (hg a h2).2
      | succ j => rw [w.dis i j a h1 h2]
  jn := fun i a h => by
    cases i with
    | zero => exact ⟨(hg a h).1, hs.there a h⟩
    | succ i => exact w.jn i a h
theorem Wf.tail {o : Option V} {s : Slot} (w : Wf K H J (o :: sg) (s :: r) fp) : Wf K H J sg r (fun j => fp (j + 1)) where
  same := w.same
  len := by have := w.len; simpa using this
  rep := fun i t e ne => by
    have := w.rep (i + 1) t (by simpa using e) ne
    simpa using this
  emp := fun i e => w.emp (i + 1) (by simpa using e)
  dis := fun i j a h1 h2 => by have := w.dis (i + 1) (j + 1) a h1 h2; omega
  jn := fun i a h => w.jn (i + 1) a h
theorem Ods.weak (m : ∀ b, Own fp1 b → Own fp b) : ∀ {x : List Od} {vs : List V} {gs : List Addr}, Ods K H J fp sg x vs gs → Ods K H J fp1 sg x vs gs
  | _, _, _, .nil => .nil
  | _, _, _, .cons (o := o) h n k => .cons (by
      cases o with
      | pl i => exact h
      | da d => exact h
      | tm s => exact ⟨h.1, fun b q => ⟨(h.2 b q).1, fun z => (h.2 b q).2 (m b z)⟩⟩) n (k.weak m)
theorem mv1_ok {o : Od} {v : V} {g : List Addr} {s : Slot} {l : Option Nat} {r1 : Ro} (w : Wf K H J sg r fp) (h : OdR K H J fp sg o v g) (e : mv1 r o = some (s, l, r1)) :
    ∃ fp1 gs, Wf K H J sg r1 fp1 ∧ RepS K H J s v gs ∧ (∀ b ∈ gs, J b = none ∧ ¬ Own fp1 b) ∧ (∀ i, l = some i → sg[i]? = some (some v)) ∧ (∀ b, Own fp1 b → Own fp b) ∧ ∀ b ∈ gs, Own fp b ∨ b ∈ g := by
  cases o with
  | da d => cases e; exact ⟨fp, [], w, ⟨rfl, h.2⟩, (fun b z => nomatch z), (fun i z => nomatch z), (fun b z => z), fun b z => nomatch z⟩
  | tm s' => cases e; exact ⟨fp, g, w, h.1, h.2, (fun i z => nomatch z), (fun b z => z), fun b z => .inr z⟩
  | pl i =>
    have own : ∀ s', r[i]? = some s' → s' ≠ .non → ∃ fp1 gs, Wf K H J sg (r.set i .non) fp1 ∧ RepS K H J s' v gs ∧ (∀ b ∈ gs, J b = none ∧ ¬ Own fp1 b) ∧ (∀ j, some i = some j → sg[j]? = some (some v)) ∧ (∀ b, Own fp1 b → Own fp b) ∧ ∀ b ∈ gs, Own fp b ∨ b ∈ g := by
      intro s' e ne
      obtain ⟨v', hv, q⟩ := w.rep i _ e ne
      rw [h.2] at hv
      cases hv
      exact ⟨fpSet fp i [], fp i, w.drop i, q, fun b z => ⟨(w.jn i b z).1, own_wipe_ne w z⟩, (fun j e => by cases e; exact h.2), fun b z => own_wipe z, fun b z => .inl ⟨i, z⟩⟩
    simp only [mv1] at e
    split at e
    · rename_i d ed
      cases e
      obtain ⟨v', hv, q⟩ := w.rep i _ ed (fun z => nomatch z)
      rw [h.2] at hv
      cases hv
      exact ⟨fp, [], w, ⟨rfl, q.2⟩, (fun b z => nomatch z), (fun i z => nomatch z), (fun b z => z), fun b z => nomatch z⟩
    · rename_i ds ed
      cases e
      exact own _ ed (fun z => nomatch z)
    · rename_i t kvs ed
      cases e
      exact own _ ed (fun z => nomatch z)
    · rename_i c fs ed
      cases e
      exact own _ ed (fun z => nomatch z)
    · cases e
inductive Plc (sg : St) : List (Option Nat) → List V → Prop
  | nil : Plc sg [] []
  | cons {l : Option Nat} {ls : List (Option Nat)} {v : V} {vs : List V} : (∀ i, l = some i → sg[i]? = some (some v)) → Plc sg ls vs → Plc sg (l :: ls) (v :: vs)
theorem mvs_ok : ∀ {x : List Od} {vs : List V} {gs : List Addr} {r : Ro} {fp : Nat → List Addr} {args : Ro} {ls : List (Option Nat)} {r2 : Ro}, Wf K H J sg r fp → Ods K H J fp sg x vs gs → mvs x r = some (args, ls, r2) →
    ∃ fp2 fpA, Wf K H J sg r2 fp2 ∧ Wf K H J (vs.map some) args fpA ∧ (∀ b, Own fpA b → ¬ Own fp2 b) ∧ (∀ b, Own fp2 b → Own fp b) ∧ (∀ b, Own fpA b → Own fp b ∨ b ∈ gs) ∧ Plc sg ls vs
  | _, _, _, r, fp, args, ls, r2, w, .nil, e => by
    simp only [mvs] at e
    cases e
    exact ⟨fp, _, w, Wf.nil w.same, (fun b ⟨_, q⟩ => nomatch q), (fun b z => z), (fun b ⟨_, q⟩ => nomatch q), .nil⟩
  | _, _, _, r, fp, args, ls, r2, w, .cons (o := o) (x := x) (v := v) (vs := vs) (g := g) (gs := gs) h nn k, e => by
    simp only [mvs] at e
    cases e1 : mv1 r o with
    | none => rw [e1] at e; cases e
    | some p =>
      obtain ⟨s, l, r1⟩ := p
      rw [e1] at e
      simp only at e
      cases e2 : mvs x r1 with
      | none => rw [e2] at e; cases e
      | some p2 =>
        obtain ⟨ss, ls', r2'⟩ := p2
        rw [e2] at e
        cases e
        obtain ⟨fp1, g1, w1, q1, n1, p1, s1, i1⟩ := mv1_ok w h e1
        obtain ⟨fp2, fpA, w2, wA, dA, s2, i2, pl2⟩ := mvs_ok w1 (k.weak s1) e2
        have offk := k.off
        have dis : ∀ b ∈ g1, ¬ Own fpA b := fun b z y => by
          rcases i2 b y with y | y
          · exact (n1 b z).2 y
          · rcases i1 b z with z | z
            · exact (offk b y).2.1 z
            · exact nn b z y
        refine ⟨fp2, fpC g1 fpA, w2, wA.cons q1 fun b z => ⟨(n1 b z).1, dis b z⟩, fun b ⟨j, z⟩ y => ?_, fun b z => s1 b (s2 b z), fun b ⟨j, z⟩ => ?_, .cons p1 pl2⟩
        · cases j with
          | zero => exact (n1 b z).2 (s2 b y)
          | succ j => exact dA b ⟨j, z⟩ y
        · cases j with
          | zero => exact (i1 b z).imp id fun z => List.mem_append.mpr (.inl z)
          | succ j => exact (i2 b ⟨j, z⟩).imp (s1 b) fun z => List.mem_append.mpr (.inr z)
theorem putBack_ok : ∀ {ls : List (Option Nat)} {vs : List V}, Plc sg ls vs → ∀ {outs : Ro} {fpO : Nat → List Addr} {r : Ro} {fpr : Nat → List Addr}, Wf K H J (vs.map some) outs fpO → Wf K H J sg r fpr →
    (∀ b, Own fpO b → ¬ Own fpr b) → ∃ fp', Wf K H J sg (putBack ls outs r) fp' ∧ ∀ b, Own fp' b → Own fpr b ∨ Own fpO b
  | _, _, .nil, outs, fpO, r, fpr, wo, w, n => by
    refine ⟨fpr, ?_, fun b z => .inl z⟩
    cases outs <;> exact w
  | _, _, .cons (l := l) (ls := ls) (v := v) (vs := vs) h k, outs, fpO, r, fpr, wo, w, n => by
    cases outs with
    | nil => have := wo.len; simp at this
    | cons o os =>
      have wt : Wf K H J (vs.map some) os (fun j => fpO (j + 1)) := Wf.tail (by simpa using wo)
      cases l with
      | none =>
        obtain ⟨fp', w', q⟩ := putBack_ok k wt w fun b ⟨j, z⟩ => n b ⟨j + 1, z⟩
        exact ⟨fp', w', fun b z => (q b z).imp id fun ⟨j, y⟩ => ⟨j + 1, y⟩⟩
      | some i =>
        have hv : sg[i]? = some (some v) := h i rfl
        have hi : i < r.length := by rw [← w.len]; exact (List.getElem?_eq_some_iff.mp hv).1
        have key : ∃ fp2, Wf K H J sg (r.set i o) fp2 ∧ ∀ b, Own fp2 b → Own fpr b ∨ b ∈ fpO 0 := by
          by_cases ne : o = .non
          · subst ne
            exact ⟨_, w.drop i, fun b z => .inl (own_wipe z)⟩
          · obtain ⟨v', e1, e2⟩ := wo.rep 0 o rfl ne
            simp at e1
            subst e1
            exact ⟨_, w.putKeep hi hv e2 fun b q => ⟨(wo.jn 0 b q).1, fun j _ z => n b ⟨0, q⟩ ⟨j, z⟩⟩, fun b z => (own_set z).elim .inr .inl⟩
        obtain ⟨fp2, w2, q2⟩ := key
        obtain ⟨fp', w', q⟩ := putBack_ok k wt w2 fun b ⟨j, z⟩ y => (q2 b y).elim (n b ⟨j + 1, z⟩) fun y => by have := wo.dis _ _ b z y; omega
        refine ⟨fp', w', fun b z => ?_⟩
        rcases q b z with y | ⟨j, y⟩
        · exact (q2 b y).imp id fun y => ⟨0, y⟩
        · exact .inr ⟨j + 1, y⟩
end
section
variable {K : PySem.W.Frag} {W : WX} {sg : St} {H J : Hp} {fp : Nat → List Addr} {Phi : Nat → Ro → FR}
theorem call_core {ff : Nat} {x : List Od} {r1 : Ro} {vs : List V} {H1 J1 : Hp} {fp1 : Nat → List Addr} {gs : List Addr} {Q : V → Hp → Prop} (w1 : Wf K H1 J1 sg r1 fp1) (o1 : Ods K H1 J1 fp1 sg x vs gs) (t1 : Step (Own fp) H J (fun b => Own fp1 b ∨ b ∈ gs) H1 J1)
    (f : Fin K W (RepS K) sg H J fp (match mvs x r1 with
      | some (args, ls, r2) => (match Phi ff args with
        | .ret s outs => .ok s (putBack ls outs r2)
        | .ex c fs outs => .ex c fs (putBack ls outs r2)
        | .bad => .bad)
      | none => .bad) Q) : spF K (Phi ff) vs H1 Q (WE W sg) := by
  cases em : mvs x r1 with
  | none => rw [em] at f; exact f.elim
  | some p =>
  obtain ⟨args, ls, r2⟩ := p
  rw [em] at f
  simp only at f
  obtain ⟨fp2, fpA, w2, wA, dA, s2, iA, pl⟩ := mvs_ok w1 o1 em
  refine ⟨J1, args, fpA, wA, ?_⟩
  have apart : ∀ b, Own fp2 b → ¬ Own fpA b := fun b z y => dA b y z
  have back : ∀ {outs : Ro} {fpO : Nat → List Addr} {H2 J2 : Hp} {F : Addr → Prop}, Wf K H2 J2 (vs.map some) outs fpO → Step (Own fpA) H1 J1 F H2 J2 → (∀ b, Own fpO b → F b) →
      ∃ fp', Wf K H2 J2 sg (putBack ls outs r2) fp' ∧ (∀ b, Own fp' b → Own fp2 b ∨ Own fpO b) := by
    intro outs fpO H2 J2 F wo t hF
    have w3 : Wf K H2 J2 sg r2 fp2 := w2.step t wo.same fun b z y => apart b z y
    exact putBack_ok pl wo w3 fun b z y => by
      obtain ⟨j, y⟩ := y
      exact (t.off (w2.jn j b y).1 (apart b ⟨j, y⟩) (w2.jn j b y).2).2 (hF b z)
  cases ef : Phi _ args with
  | bad => rw [ef] at f; exact f
  | ret s outs =>
    rw [ef] at f
    intro v H2 J2 fpO g wo q n t
    obtain ⟨fp', w', own'⟩ := back wo t fun b z => .inl z
    refine f v H2 J2 fp' g w' q (fun b z => ⟨(n b z).1, fun y => ?_⟩) (t1.trans ?_)
    · rcases own' b y with y | y
      · obtain ⟨j, y⟩ := y
        exact (t.off (w2.jn j b y).1 (apart b ⟨j, y⟩) (w2.jn j b y).2).2 (.inr z)
      · exact (n b z).2 y
    · refine ⟨t.js, fun b o q n => t.fr b o q fun z => n (iA b z), fun b q => ?_, fun b q => (t.jg b q).imp id fun z => z.imp (iA b) id⟩
      rcases q with q | q
      · rcases own' b q with z | z
        · exact .inl (.inl (s2 b z))
        · exact (t.fn b (.inl z)).imp (iA b) id
      · exact (t.fn b (.inr q)).imp (iA b) id
  | ex c fs outs =>
    rw [ef] at f
    intro H2 J2 fpO cls d wo q t
    obtain ⟨fp', w', own'⟩ := back wo t fun b z => z
    refine f H2 J2 fp' cls d w' q (t1.trans ?_)
    refine ⟨t.js, fun b o q n => t.fr b o q fun z => n (iA b z), fun b q => ?_, fun b q => (t.jg b q).imp id fun z => z.imp (iA b) id⟩
    rcases own' b q with z | z
    · exact .inl (.inl (s2 b z))
    · exact (t.fn b z).imp (iA b) id
theorem call_read {f : Nat} {es : CEs} {Q : V → Hp → Prop} (h : tEv K W Phi (.call f es) sg H Q) : seqOpd K W (ar1 Phi) es sg H fun vs H2 => spF K (Phi f) vs H2 Q (WE W sg) := by
  obtain ⟨J, r, fp, w, f⟩ := h
  refine seqOpd_of es w ?_
  simp only [ev, evA_many] at f
  cases e : many (ar1 Phi) es r with
  | bad => rw [e] at f; exact f
  | ex c fs r1 => rw [e] at f; exact f
  | ok x r1 =>
    rw [e] at f
    simp only [R.ok_bind] at f
    intro vs H1 J1 fp1 gs w1 o1 t1
    exact call_core w1 o1 t1 f
end
end Ev
end

section
set_option Elab.async false
set_option linter.all false
set_option maxRecDepth 100000
set_option maxHeartbeats 4000000
namespace Ev
open PySem L2
variable [Errs]
section
variable {X : Cx}
end
theorem putK_rep {K : PySem.W.Frag} {J : Hp} {α : Type} [DecidableEq α] {kf : α → PyData} (hk : ∀ a b, keq (kf a) (kf b) = decide (a = b)) {ks : List (α × V)} {kvs : List (PyData × PyData)} {k : α} {v : V} {d : PyData} (h1 : kvs.map (·.1) = ks.map (fun k => kf k.1)) (h2 : ShAll K J (ks.map (·.2)) (kvs.map (·.2))) (hv : Sh K J v d) :
    (putD (kf k) d kvs).map (·.1) = (putK ks k v).map (fun k => kf k.1) ∧ ShAll K J ((putK ks k v).map (·.2)) ((putD (kf k) d kvs).map (·.2)) := by
  have hs : (lookD (kf k) kvs).isSome = (ks.any fun kv => decide (kv.1 = k)) := by
    rw [valV_any, ← isSome_of (lookD_dk hk k h1 h2)]
  unfold putD putK
  rw [hs]
  by_cases hb : (ks.any fun kv => decide (kv.1 = k)) = true
  · rw [if_pos hb, if_pos hb]
    clear hb hs
    induction ks generalizing kvs with
    | nil =>
      cases kvs with
      | nil => exact ⟨rfl, .nil⟩
      | cons _ _ => simp at h1
    | cons a ks ih =>
      cases kvs with
      | nil => simp at h1
      | cons b kvs =>
        simp only [List.map_cons, List.cons.injEq] at h1
        cases h2 with
        | cons g1 g2 =>
          obtain ⟨i1, i2⟩ := ih h1.2 g2
          simp only [List.map_cons, h1.1, hk]
          by_cases e : a.1 = k
          · simp only [e, decide_true, if_true]
            exact ⟨by rw [i1, ← e, ← h1.1], .cons hv i2⟩
          · simp only [e, decide_false, Bool.false_eq_true, if_false]
            exact ⟨by rw [i1, ← h1.1], .cons g1 i2⟩
  · rw [if_neg hb, if_neg hb]
    exact ⟨by simp [h1], by simpa using shsApp h2 (.cons hv .nil)⟩
theorem PrimQ.dct {K : PySem.W.Frag} {H J : Hp} {Q : VK} {p : Addr} {ho : HO} {t : Bool} {kvs : List (PyData × PyData)} (q : PrimQ K H J (.dct t kvs) Q) (sm : Same J H) (hp : H p = none) (h : DRep K J ho t kvs) : Q (.ref p) (upd H p ho) := by
  have st : Step (fun _ => False) H J (fun b => False ∨ b = p) (upd H p ho) J := step_own hp
  have jp : J p = none := by
    cases e : J p with
    | none => rfl
    | some o => rw [sm _ _ e] at hp; cases hp
  refine q _ _ J [p] ⟨p, ho, rfl, rfl, upd_same, h⟩ (fun b z => ?_) (st.weak fun b z => .inr (List.mem_singleton.mp z)) (same_upd sm hp)
  cases List.mem_singleton.mp z
  exact ⟨jp, hp⟩
theorem pairs_K {K : PySem.W.Frag} {J H : Hp} (sm : Same J H) : ∀ {ds : List PyData} {ps : List (PyData × PyData)} {xs : List V}, pairsD false ds = some ps → ShAll K J xs ds →
    ∃ (Ts : List Addr) (kvs : List (Key × V)), xs = Ts.map V.ref ∧ Paired (fun p kv => SqT K H p [kV kv.1, kv.2]) Ts kvs ∧ ps.map (·.1) = kvs.map (fun k => keyDK k.1) ∧ ShAll K J (kvs.map (·.2)) (ps.map (·.2))
  | [], ps, _, e, .nil => by simp only [pairsD] at e; cases e; exact ⟨[], [], rfl, .nil, rfl, .nil⟩
  | d :: ds, ps, _, e, .cons (v := v) h t => by
    unfold pairsD at e
    split at e
    · rename_i q; cases q
    · rename_i k x ds' q
      cases q
      split at e
      · rename_i hk
        obtain ⟨ps', e', rfl⟩ := Option.map_eq_some_iff.mp e
        obtain ⟨Ts, kvs, rfl, h1, h2, h3⟩ := pairs_K sm e' t
        cases h with
        | tup ha hb =>
          rename_i a ys
          cases hb with
          | cons g1 g2 =>
          cases g2 with
          | cons g2 g3 =>
          cases g3
          have hk : key1 k = true := hk
          obtain ⟨kk, rfl⟩ := key1_some hk
          have ek := sh_key g1
          subst ek
          exact ⟨a :: Ts, (kk, _) :: kvs, rfl, .cons (.of (sm _ _ ha)) h1, by simp [h2], .cons g2 h3⟩
      · cases e
    · cases e
theorem pairs_T {K : PySem.W.Frag} {J H : Hp} (sm : Same J H) : ∀ {ds : List PyData} {ps : List (PyData × PyData)} {xs : List V}, pairsD true ds = some ps → ShAll K J xs ds →
    ∃ (Ts : List Addr) (kvs : List (List Key × V)), xs = Ts.map V.ref ∧ Paired (fun p kv => ∃ b, H p = some (.tup [.ref b, kv.2]) ∧ H b = some (.tup (kv.1.map kV))) Ts kvs ∧ ps.map (·.1) = kvs.map (fun k => PyData.tuple (k.1.map keyDK)) ∧ ShAll K J (kvs.map (·.2)) (ps.map (·.2))
  | [], ps, _, e, .nil => by simp only [pairsD] at e; cases e; exact ⟨[], [], rfl, .nil, rfl, .nil⟩
  | d :: ds, ps, _, e, .cons (v := v) h t => by
    unfold pairsD at e
    split at e
    · rename_i q; cases q
    · rename_i k x ds' q
      cases q
      split at e
      · rename_i hk
        obtain ⟨ps', e', rfl⟩ := Option.map_eq_some_iff.mp e
        obtain ⟨Ts, kvs, rfl, h1, h2, h3⟩ := pairs_T sm e' t
        cases h with
        | tup ha hb =>
          rename_i a ys
          cases hb with
          | cons g1 g2 =>
          cases g2 with
          | cons g2 g3 =>
          cases g3
          obtain ⟨b, kk, rfl, hb2, rfl⟩ := Vw.key (t := true) sm (.inl g1) hk
          exact ⟨a :: Ts, (kk, _) :: kvs, rfl, .cons ⟨b, sm _ _ ha, hb2⟩ h1, by simp [h2], .cons g2 h3⟩
      · cases e
    · cases e
theorem merge_K {K : PySem.W.Frag} {J : Hp} : ∀ {more : List (Key × V)} {ps : List (PyData × PyData)} {acc : List (Key × V)} {kacc : List (PyData × PyData)}, ps.map (·.1) = more.map (fun k => keyDK k.1) → ShAll K J (more.map (·.2)) (ps.map (·.2)) → kacc.map (·.1) = acc.map (fun k => keyDK k.1) → ShAll K J (acc.map (·.2)) (kacc.map (·.2)) →
    (putAll kacc ps).map (·.1) = (mergeK acc more).map (fun k => keyDK k.1) ∧ ShAll K J ((mergeK acc more).map (·.2)) ((putAll kacc ps).map (·.2))
  | [], [], _, _, _, _, h3, h4 => ⟨h3, h4⟩
  | [], _ :: _, _, _, h1, _, _, _ => by simp at h1
  | _ :: _, [], _, _, h1, _, _, _ => by simp at h1
  | (k, v) :: more, (a, b) :: ps, acc, kacc, h1, h2, h3, h4 => by
    simp only [List.map_cons, List.cons.injEq] at h1
    obtain ⟨rfl, h1⟩ := h1
    cases h2 with
    | cons g1 g2 =>
      obtain ⟨p1, p2⟩ := putK_rep (k := k) (v := v) (d := b) keq_dk h3 h4 g1
      exact merge_K (acc := putK acc k v) (kacc := putD (keyDK k) b kacc) h1 g2 p1 p2
theorem merge_T {K : PySem.W.Frag} {J H : Hp} : ∀ {more : List (List Key × V)} {ps : List (PyData × PyData)} {rs : List (List Key × Addr × Value)} {acc : List (List Key × V)} {racc : List (List Key × Addr × Value)} {kacc : List (PyData × PyData)}, ps.map (·.1) = more.map (fun k => PyData.tuple (k.1.map keyDK)) → ShAll K J (more.map (·.2)) (ps.map (·.2)) → KT H more rs →
    kacc.map (·.1) = acc.map (fun k => PyData.tuple (k.1.map keyDK)) → ShAll K J (acc.map (·.2)) (kacc.map (·.2)) → KT H acc racc →
    ∃ fin : List (List Key × V), (putAll kacc ps).map (·.1) = fin.map (fun k => PyData.tuple (k.1.map keyDK)) ∧ ShAll K J (fin.map (·.2)) ((putAll kacc ps).map (·.2)) ∧ KT H fin (storedAllH racc rs) ∧ fin.length ≤ acc.length + more.length
  | [], [], [], acc, _, _, _, _, _, h3, h4, h5 => ⟨acc, h3, h4, h5, Nat.le_refl _⟩
  | [], _ :: _, _, _, _, _, h1, _, _, _, _, _ => by simp at h1
  | _ :: _, [], _, _, _, _, h1, _, _, _, _, _ => by simp at h1
  | [], [], _ :: _, _, _, _, _, _, h, _, _, _ => nomatch h
  | _ :: _, _ :: _, [], _, _, _, _, _, h, _, _, _ => nomatch h
  | (k, v) :: more, (a, b) :: ps, r :: rs, acc, racc, kacc, h1, h2, hk, h3, h4, h5 => by
    simp only [List.map_cons, List.cons.injEq] at h1
    obtain ⟨rfl, h1⟩ := h1
    cases h2 with
    | cons g1 g2 =>
    cases hk with
    | cons q hk =>
      obtain ⟨q1, q2, q3⟩ := q
      obtain ⟨p1, p2⟩ := putK_rep (kf := fun (k : List Key) => PyData.tuple (k.map keyDK)) (k := k) (v := v) (d := b) keq_dt h3 h4 g1
      have h5' := h5.put k q2 q3
      have e : storedH racc k r.2.1 r.2.2 = storedH racc r.1 r.2.1 r.2.2 := by rw [show r.1 = k from q1.symm]
      rw [e] at h5'
      obtain ⟨fin, f1, f2, f3, f4⟩ := merge_T (acc := putK acc k v) (racc := storedH racc r.1 r.2.1 r.2.2) (kacc := putD (.tuple (k.map keyDK)) b kacc) h1 g2 hk p1 p2 h5'
      refine ⟨fin, f1, f2, f3, ?_⟩
      have := length_putK acc k v
      simp only [List.length_cons]
      omega
theorem Paired.at2 {α β : Type} {F : α → β → Prop} : ∀ {l : List α} {m : List β}, Paired F l m → ∀ {i : Nat} {b : β}, m[i]? = some b → ∃ a, l[i]? = some a ∧ F a b
  | _, _, .nil, _, _, e => by simp at e
  | _, _, .cons h _, 0, _, e => by simp at e; subst e; exact ⟨_, rfl, h⟩
  | _, _, .cons _ t, i + 1, _, e => by
    obtain ⟨a, h1, h2⟩ := Paired.at2 t (by simpa using e)
    exact ⟨a, by simpa using h1, h2⟩
theorem refs_of : ∀ {Ts : List Addr} {us : List Value}, Vals (Ts.map V.ref) us → us = Ts.map Value.ref
  | [], _, .nil => rfl
  | _ :: _, _, .cons r t => by
    rw [refs_of t]
    rw [show _ = Value.ref _ from r]; rfl
section
variable {X : Cx}
theorem pairs_VT {pins : List (Addr × Obj)} {sg : St} {H : Hp} {s : Shared} (I : Inv X pins sg H s) : ∀ {Ts : List Addr} {kvs : List (List Key × V)}, Paired (fun p kv => ∃ b, H p = some (.tup [.ref b, kv.2]) ∧ H b = some (.tup (kv.1.map kV))) Ts kvs →
    ∃ rs : List (List Key × Addr × Value), KT H kvs rs ∧ rs.length = Ts.length ∧ ∀ (j : Nat) (r : List Key × Addr × Value), rs[j]? = some r → ∃ T, Ts[j]? = some T ∧ s.heap.IsTuple T #[.ref r.2.1, r.2.2]
  | _, _, .nil => ⟨[], .nil, rfl, fun j q e => by simp at e⟩
  | _, _, .cons (a := p) (b := kv) h t => by
    obtain ⟨rs, r, hl, hp⟩ := pairs_VT I t
    obtain ⟨b, h1, h2⟩ := h
    obtain ⟨its, rv, ht, _⟩ := I.tuple (.of h1)
    obtain ⟨u, y, rfl, ru, ry⟩ := vals2 rv
    obtain rfl : u = Value.ref b := ru
    refine ⟨(kv.1, b, y) :: rs, .cons ⟨rfl, h2, ry⟩ r, by rw [List.length_cons, List.length_cons, hl], fun j q e => ?_⟩
    cases j with
    | zero =>
      have e' : (kv.1, b, y) = q := Option.some.inj e
      subst e'
      exact ⟨p, rfl, ht⟩
    | succ j =>
      obtain ⟨T, e1, e2⟩ := hp j q (by simpa using e)
      exact ⟨T, by simpa using e1, e2⟩
theorem ktMem {H : Hp} : ∀ {l : List (List Key × V)} {m : List (List Key × Addr × Value)}, KT H l m → ∀ x ∈ m, H x.2.1 = some (.tup (x.1.map kV))
  | _, _, .nil, _, h => nomatch h
  | _, _, .cons h t, x, hx => by
    rcases List.mem_cons.mp hx with rfl | hx
    · rw [← h.1]; exact h.2.1
    · exact ktMem t x hx
open PySem.Spec in
theorem pm_dict {t : Bool} (hc : X.calm = true) (hu : X.A.units + 65 < cLine) : CallR X (.type "dict") (rPrim X.K (.dict_ t)) := by
  intro pins s sg H vs us Q I rv h
  obtain ⟨J, ds, tt, sm, vw, hp, q⟩ := h
  have hp : pDict t ds = some tt := hp
  unfold pDict at hp
  split at hp
  · obtain ⟨ps, hps, rfl⟩ := Option.map_eq_some_iff.mp hp
    obtain ⟨v, rfl, a⟩ := vw.one
    obtain ⟨l, xs, rfl, ha, ga⟩ := a.list sm
    cases t with
    | false =>
      obtain ⟨Ts, kvs, rfl, h1, h2, h3⟩ := pairs_K sm hps ga
      refine call_dictP hc pins s sg H _ us Q I rv ⟨l, Ts, kvs, rfl, .of ha, h1, fun p hp => ?_⟩
      obtain ⟨m1, m2⟩ := merge_K (K := X.K) (J := J) (acc := []) (kacc := []) h2 h3 rfl .nil
      exact q.dct sm hp ⟨_, rfl, m1, m2⟩
    | true =>
      obtain ⟨Ts, kvs, rfl, h1, h2, h3⟩ := pairs_T sm hps ga
      obtain ⟨u, rfl, rx⟩ := vals1 rv
      obtain rfl : u = Value.ref l := rx
      obtain ⟨hz, its, n, rits, _, eo⟩ := I.lstM ha
      obtain rfl := refs_of rits
      obtain ⟨rs, kt, hl, hpr⟩ := pairs_VT I h1
      have hkv : kvs.length = Ts.length := (Paired.length h1).symm
      have item : ∀ (j : Nat) (k w : Value), (rs.map fun r => (Value.ref r.2.1, r.2.2))[j]? = some (k, w) → (Ts.map Value.ref).toArray[j]? = some (.ref (Ts.getD j 0)) ∧ PySem.PairAt s.heap (Ts.getD j 0) k w := by
        intro j k w e
        rw [List.getElem?_map] at e
        obtain ⟨r, hr, e⟩ := Option.map_eq_some_iff.mp e
        cases e
        obtain ⟨T, hT, hI⟩ := hpr j r hr
        have eT : Ts.getD j 0 = T := by rw [List.getD_eq_getElem?_getD, hT]; rfl
        rw [eT]
        exact ⟨by simp [hT], .inl hI⟩
      have arg := PySem.PairArg.list (prog := X.prog) (w := X.w) l (Ts.map Value.ref).toArray (fun j => Ts.getD j 0) (rs.map fun r => (Value.ref r.2.1, r.2.2))
      have okk : PySem.PlainSeq "list" s.heap l (Ts.map Value.ref).toArray ∧ PySem.PairItems s.heap (Ts.map Value.ref).toArray (fun j => Ts.getD j 0) (rs.map fun r => (Value.ref r.2.1, r.2.2)) :=
        ⟨⟨_, n, eo, rfl, rfl, rfl⟩, by simp [hl], item⟩
      have hrl : (rs.map fun r => (Value.ref r.2.1, r.2.2)).length ≤ sizeLine := by rw [List.length_map] at hz ⊢; omega
      refine PySem.call_dict_pairsH (knd := tupleKind (mixKind X.prog X.w)) (ps := rs) arg (I.ok.hd hc) ?_ okk ⟨by simp, fun i key w e => ?_⟩ ?_ hrl fun h' tk dd k => ?_
      · show X.A.in1.in1.units < cLine
        have := X.A.in1_units
        have := X.A.in1.in1_units
        omega
      · rw [show PySem.PairRel _ i key w = ((rs.map fun r => (Value.ref r.2.1, r.2.2))[i]? = some (key, w)) from rfl, List.getElem?_map] at e
        obtain ⟨r, hr, e⟩ := Option.map_eq_some_iff.mp e
        cases e
        exact ⟨r.1, r.2.1, hr, rfl⟩
      · intro h' hk x hx
        obtain ⟨o, its, n, e1, e2, e3, e4⟩ := (show IsTupleKey (mixKind X.prog X.w) s.heap x.1 x.2.1 from key_of I.hok (ktMem kt x hx))
        exact ⟨o, its, n, hk _ o (Nat.ne_of_lt (Heap.lt_size e1)) (by simp) e1, e2, e3, e4⟩
      · obtain ⟨fin, f1, f2, f3, f4⟩ := merge_T (K := X.K) (J := J) (acc := []) (racc := []) (kacc := []) h2 h3 kt rfl .nil .nil
        have hm : (s.heap.objs.size == sysModules) = false := beq_eq_false_iff_ne.mpr (Nat.ne_of_gt I.big)
        have hfr : H s.heap.objs.size = none := I.hok.fresh (Nat.le_refl _)
        have hfl : fin.length ≤ sizeLine := by rw [List.length_map] at hz; simp at f4; omega
        obtain ⟨o, es, ep, g1, g2, g3, g4, g5, g6⟩ := dd
        refine ⟨.ref s.heap.objs.size, upd H s.heap.objs.size (.dT fin), I.laid (t' := tk) (fun b o e => k b o (by simp) e) (Nat.le_refl _) ?_, rfl, q.dct sm hfr ⟨fin, rfl, f1, f2⟩⟩
        exact ⟨hfl, hm, _, f3.keeps fun b ys e => by rw [upd_ne (ne_of_none e hfr)]; exact e, o, es, ep, g1, g2, g3, g4, g6⟩
  · cases hp
end
section
variable {X : Cx}
end
end Ev
end

section
set_option Elab.async false
set_option linter.all false
set_option maxRecDepth 100000
set_option maxHeartbeats 4000000
namespace Ev
open PySem L2 PyProof.Rows
variable [Errs]
section
variable {X : Cx}
theorem depthAll_le : ∀ {es : List PyData}, (∀ d ∈ es, d.depth ≤ 60) → PyData.depthAll es ≤ 60
  | [], _ => by simp [PyData.depthAll]
  | d :: ds, h => by
    have h1 := h d (by simp)
    have h2 := depthAll_le (es := ds) fun x hx => h x (by simp [hx])
    simp only [PyData.depthAll]
    omega
theorem canLayAll_of : ∀ {es : List PyData}, (∀ d ∈ es, d.canLay0 = true) → PyData.canLayAll0 es = true
  | [], _ => rfl
  | d :: ds, h => by
    simp only [PyData.canLayAll0, Bool.and_eq_true]
    exact ⟨h d (by simp), canLayAll_of fun x hx => h x (by simp [hx])⟩
theorem shs_get {K : PySem.W.Frag} {J : Hp} : ∀ {xs : List V} {ds : List PyData}, ShAll K J xs ds → ∀ {i : Nat}, i < ds.length → ∃ w, xs[i]? = some w ∧ Sh K J w (ds.getD i .none)
  | _, _, .nil, _, h => by cases h
  | _, _, .cons h _, 0, _ => ⟨_, rfl, h⟩
  | _, _, .cons _ t, i + 1, hi => by
    obtain ⟨w, h1, h2⟩ := shs_get t (i := i) (by simpa using hi)
    exact ⟨w, by simpa using h1, by simpa using h2⟩
theorem vals_at {xs : List V} {us : List Value} (h : Vals xs us) : ∀ {i : Nat} {w : V} {u : Value}, xs[i]? = some w → us[i]? = some u → RelV w u := by
  induction h with
  | nil => intro i w u h; simp at h
  | cons r t ih =>
    intro i w u h1 h2
    cases i with
    | zero => simp at h1 h2; subst h1; subst h2; exact r
    | succ i => exact ih (by simpa using h1) (by simpa using h2)
theorem pm_maxT (hc : X.calm = true) (hu : X.A.units + 64 < cLine) : CallR X (.builtin "max") (rPrim X.K .maxT) := by
  intro pins s sg H vs us Q I rv h
  obtain ⟨J, ds, t, sm, vw, hp, q⟩ := h
  have hp : pMaxT ds = some t := hp
  unfold pMaxT at hp
  split at hp
  · rename_i d es hpp
    split at hp
    · rename_i hz
      cases hp
      rw [Bool.and_eq_true, sortB, Bool.and_eq_true, Bool.and_eq_true] at hz
      obtain ⟨h0, ⟨h1, h2⟩, h3⟩ := hz
      simp only [alikeB, List.all_eq_true] at h0 h1
      simp only [Bool.and_eq_true, List.all_eq_true, decide_eq_true_eq] at h3
      obtain ⟨v, rfl, a⟩ := vw.one
      obtain ⟨l, ys, rfl, ha, ga⟩ := a.list sm
      obtain ⟨u, rfl, rx⟩ := vals1 rv
      cases rx
      obtain ⟨hl, its, n, rits, eo⟩ := (show ObjOk X.prog X.w H s.heap l (.lst ys) from I.hok l _ ha)
      have hli : s.heap.IsList l its.toArray := ⟨_, eo, rfl, n, rfl⟩
      have hlay : PyData.canLayAll0 (d :: es) = true := canLayAll_of fun d hd => (h3 d hd).1
      obtain ⟨as, hra⟩ := Dp.readsAll I (d :: es) ys its (shsDp hlay (shsMono sm ga)) rits
      have hdep := depthAll_le fun d hd => (h3 d hd).2
      refine PySem.W.max_list_data (I.ok.hd hc) hli hra ⟨fun x hx y hy => h1 x hx y hy, fun x hx e => ?_⟩ (by omega) fun i v h' tk bs hv hrd hk => ?_
      · have := h0 x hx
        rw [e] at this
        cases this
      · obtain ⟨bs2, hr2, hi, hmem, _⟩ := PySem.W.readsAll_at hra i v (by simpa using hv)
        obtain ⟨e, _⟩ := PyProof.Rows.reads_det (fun b o q _ => hk b o q) hr2 hrd
        obtain ⟨w, hw, gw⟩ := shs_get ga hi
        have hwv : RelV w v := vals_at rits hw (by simpa using hv)
        rw [show mxD d es = (d :: es).getD i .none from e] at q
        exact ⟨w, H, I.kept hk, hwv, q.val sm gw⟩
    · cases hp
  · cases hp
end
end Ev
end

section
set_option Elab.async false
set_option linter.all false
set_option maxRecDepth 100000
set_option maxHeartbeats 4000000
namespace Ev
open PySem L2
variable [Errs]
section
variable {K : PySem.W.Frag} {W : WX} {H J : Hp} {sg : St} {r : Ro} {fp : Nat → List Addr}
theorem RepL.len : ∀ {as : List Addr} {dss : List (List PyData)}, RepL K H J as dss → as.length = dss.length
  | [], [], _ => rfl
  | [], _ :: _, h => h.elim
  | _ :: _, [], h => h.elim
  | b :: bs, ds :: dss, ⟨_, h⟩ => by rw [List.length_cons, List.length_cons, h.len]
theorem RepL.shs {J' : Hp} (js : Same J J') : ∀ {as : List Addr} {dss : List (List PyData)}, RepL K H J as dss → (∀ b ∈ as, J' b = H b) → ShAll K J' (as.map V.ref) (dss.map PyData.list)
  | [], [], _, _ => .nil
  | [], _ :: _, h, _ => h.elim
  | _ :: _, [], h, _ => h.elim
  | b :: bs, ds :: dss, ⟨⟨xs, h1, h2⟩, h⟩, e => .cons (.lst (by rw [e b (by simp)]; exact h1) (shsMono js h2)) (h.shs js fun a q => e a (List.mem_cons_of_mem _ q))
theorem RepL.at : ∀ {as : List Addr} {dss : List (List PyData)} {j : Nat} {l : Addr}, RepL K H J as dss → as[j]? = some l → ∃ ds xs, dss[j]? = some ds ∧ H l = some (.lst xs) ∧ ShAll K J xs ds
  | [], [], j, l, _, e => by simp at e
  | [], _ :: _, _, _, h, _ => h.elim
  | _ :: _, [], _, _, h, _ => h.elim
  | b :: bs, ds :: dss, 0, l, ⟨⟨xs, h1, h2⟩, h⟩, e => by
    simp at e
    subst e
    exact ⟨ds, xs, rfl, h1, h2⟩
  | b :: bs, ds :: dss, j + 1, l, ⟨_, h⟩, e => h.at (by simpa using e)
theorem RepL.off : ∀ {as : List Addr} {dss : List (List PyData)} {l : Addr} {o : HO}, RepL K H J as dss → l ∉ as → RepL K (upd H l o) J as dss
  | [], [], _, _, _, _ => trivial
  | [], _ :: _, _, _, h, _ => h.elim
  | _ :: _, [], _, _, h, _ => h.elim
  | b :: bs, ds :: dss, l, o, ⟨⟨xs, h1, h2⟩, h⟩, n => ⟨⟨xs, by rw [upd_ne fun z => n (by rw [z]; simp)]; exact h1, h2⟩, h.off fun z => n (List.mem_cons_of_mem _ z)⟩
theorem Wf.freezeLL (w : Wf K H J sg r fp) {i : Nat} {dss : List (List PyData)} (e : r[i]? = some (.ll false dss)) : ∃ v J' fp', Sh K J' v (.list (dss.map PyData.list)) ∧ sg[i]? = some (some v) ∧ Wf K H J' sg (r.set i (.sh (.list (dss.map PyData.list)))) fp' ∧ Step (Own fp) H J (Own fp') H J' := by
  obtain ⟨v, hv, a, as, rfl, nd, hL, hc⟩ := w.rep i _ e (fun z => nomatch z)
  rcases hc with ⟨_, hg, hna, ha⟩ | ⟨z, _⟩
  case inr => cases z
  have hi : i < r.length := (List.getElem?_eq_some_iff.mp e).1
  have jn : ∀ b ∈ fp i, J b = none := fun b q => (w.jn i b q).1
  have ld : ∀ b ∈ fp i, H b ≠ none := fun b q z => by
    obtain ⟨o, ho, _⟩ := (w.jn i b q).2
    rw [z] at ho; cases ho
  let J' : Hp := fun b => if b ∈ fp i then H b else J b
  have jin : ∀ b ∈ fp i, J' b = H b := fun b q => if_pos q
  have jout : ∀ b, b ∉ fp i → J' b = J b := fun b q => if_neg q
  have js : Same J J' := fun b u q => by
    rw [jout b fun z => by rw [jn b z] at q; cases q]
    exact q
  have sm : Same J' H := fun b u q => by
    by_cases z : b ∈ fp i
    · rw [jin b z] at q; exact q
    · rw [jout b z] at q; exact w.same b u q
  have st : Step (fun b => b ∈ fp i) H J (fun _ => False) H J' := ⟨js, fun _ _ h _ => h, fun _ h => h.elim, fun b q => by
    by_cases z : b ∈ fp i
    · exact .inr (.inl z)
    · rw [jout b z] at q; exact .inl q⟩
  have w2 := (w.drop i).step st sm fun b q z => own_wipe_ne w z q
  have sh : Sh K J' (.ref a) (.list (dss.map PyData.list)) := .lst (by rw [jin a (by rw [hg]; simp)]; exact ha) (hL.shs js fun b q => jin b (by rw [hg]; simp [q]))
  have w3 := w2.putKeep (i := i) (s := .sh (.list (dss.map PyData.list))) (g := []) (by rw [List.length_set]; exact hi) hv ⟨rfl, sh⟩ fun b z => nomatch z
  rw [List.set_set] at w3
  refine ⟨.ref a, J', _, sh, hv, w3, js, fun b o h _ => h, fun b q => .inl (own_wipe (own_wipe q)), fun b q => ?_⟩
  rcases st.jg b q with z | z | z
  · exact .inl z
  · exact .inr (.inl ⟨i, z⟩)
  · exact .inr (.inr z)
theorem RepL.new : ∀ {as : List Addr} {dss : List (List PyData)} {p : Addr} {o : HO}, RepL K H J as dss → H p = none → RepL K (upd H p o) J as dss
  | [], [], _, _, _, _ => trivial
  | [], _ :: _, _, _, h, _ => h.elim
  | _ :: _, [], _, _, h, _ => h.elim
  | b :: bs, ds :: dss, p, o, ⟨⟨xs, h1, h2⟩, h⟩, n => ⟨⟨xs, by rw [upd_ne (ne_of_none h1 n)]; exact h1, h2⟩, h.new n⟩
end
end Ev
end

section
set_option Elab.async false
set_option linter.all false
set_option maxRecDepth 100000
set_option maxHeartbeats 4000000
namespace Ev
open PySem L2
variable [Errs]
def LkN : Nat → (V → Hp → Prop) → V → Hp → Prop
  | 0, Q => Q
  | n + 1, Q => fun v H => LkN n Q v H ∨ ∃ a u, H a = some u ∧ Mut (some u) ∧ ∀ od, LkN n Q v (upd H a (.frz od u))
def LkS (Q : V → Hp → Prop) : V → Hp → Prop := fun v H => ∃ n, LkN n Q v H
theorem lkN_run {X : Cx} {pins : List (Addr × Obj)} {sg : St} {s : Shared} {Q : V → Hp → Prop} {v : V} : ∀ (n : Nat) {H : Hp}, Inv X pins sg H s → LkN n Q v H → ∃ H', Inv X pins sg H' s ∧ Q v H'
  | 0, H, I, q => ⟨H, I, q⟩
  | n + 1, H, I, q => by
    rcases q with q | ⟨a, u, ha, mu, k⟩
    · exact lkN_run n I q
    · obtain ⟨od, I2⟩ := I.lock ha mu
      exact lkN_run n I2 (k od)
theorem PE.lkS {X : Cx} {e : Expr} {t : TE} (h : PE X e t) : PE X e (fun sg H Q => t sg H (LkS Q)) := by
  refine ⟨fun pins s sg H Q I q => ?_⟩
  refine thn (h.run pins s sg H _ I q) fun v s1 ⟨x, H1, I1, r, n, q1⟩ => ?_
  obtain ⟨H2, I2, q2⟩ := lkN_run n I1 q1
  exact ⟨x, H2, I2, r, q2⟩
theorem lkN_all {Q : V → Hp → Prop} {v : V} : ∀ (L : List Addr) {H : Hp}, L.Nodup → (∀ b ∈ L, ∃ u, H b = some u ∧ Mut (some u)) → (∀ H', (∀ b ∈ L, ∃ od u, H b = some u ∧ H' b = some (.frz od u)) → (∀ b, b ∉ L → H' b = H b) → Q v H') → LkN L.length Q v H
  | [], H, _, _, k => k H (fun _ z => nomatch z) fun _ _ => rfl
  | b :: L, H, nd, hm, k => by
    obtain ⟨n1, n2⟩ := List.nodup_cons.mp nd
    obtain ⟨u, hu, mu⟩ := hm b (by simp)
    refine .inr ⟨b, u, hu, mu, fun od => ?_⟩
    have ne : ∀ c ∈ L, c ≠ b := fun c hc z => n1 (by rw [← z]; exact hc)
    refine lkN_all L n2 (fun c hc => ?_) fun H' h1 h2 => k H' (fun c hc => ?_) fun c hc => ?_
    · obtain ⟨w, hw, mw⟩ := hm c (List.mem_cons_of_mem _ hc)
      exact ⟨w, by rw [upd_ne (ne c hc)]; exact hw, mw⟩
    · rcases List.mem_cons.mp hc with rfl | hc
      · exact ⟨od, u, hu, by rw [h2 _ n1, upd_same]⟩
      · obtain ⟨od', w, e1, e2⟩ := h1 c hc
        rw [upd_ne (ne c hc)] at e1
        exact ⟨od', w, e1, e2⟩
    · rw [h2 c fun z => hc (List.mem_cons_of_mem _ z), upd_ne fun z => hc (by rw [z]; simp)]
section
variable {K : PySem.W.Frag} {W : WX} {H J : Hp} {sg : St} {r : Ro} {fp : Nat → List Addr}
theorem RepDD.mut : ∀ {as : List Addr} {kss : List (PyData × List (PyData × PyData))}, RepDD K H J as kss → ∀ b ∈ as, ∃ u, H b = some u ∧ Mut (some u)
  | [], [], _, b, q => by cases q
  | [], _ :: _, h, _, _ => h.elim
  | _ :: _, [], h, _, _ => h.elim
  | c :: bs, p :: kss, ⟨⟨ho, h1, h2⟩, h⟩, b, q => by
    rcases List.mem_cons.mp q with rfl | q
    · exact ⟨ho, h1, h2.mut⟩
    · exact h.mut b q
theorem RepDD.shs {H' J' : Hp} (js : Same J J') : ∀ {as : List Addr} {kss : List (PyData × List (PyData × PyData))}, RepDD K H J as kss → (∀ b ∈ as, ∃ od u, H b = some u ∧ J' b = some (.frz od u)) → ShAll K J' (as.map V.ref) (kss.map fun q => dictD true q.2)
  | [], [], _, _ => .nil
  | [], _ :: _, h, _ => h.elim
  | _ :: _, [], h, _ => h.elim
  | b :: bs, p :: kss, ⟨⟨ho, h1, h2⟩, h⟩, e => by
    refine .cons ?_ (h.shs (H' := H') js fun c hc => e c (List.mem_cons_of_mem _ hc))
    obtain ⟨od, u, e1, e2⟩ := e b (by simp)
    rw [h1] at e1
    cases e1
    exact (h2.mono js).sh e2
theorem Wf.freezeDD (w : Wf K H J sg r fp) {i : Nat} {kss : List (PyData × List (PyData × PyData))} (e : r[i]? = some (.dd kss)) {Q : V → Hp → Prop}
    (k : ∀ v H' J' fp', Sh K J' v (ddD kss) → Wf K H' J' sg (r.set i (.sh (ddD kss))) fp' → Step (Own fp) H J (Own fp') H' J' → Q v H') : ∃ v, sg[i]? = some (some v) ∧ LkS Q v H := by
  obtain ⟨v, hv, a, as, ks, rfl, hg, nd, ha, k1, k2, hD⟩ := w.rep i _ e (fun z => nomatch z)
  refine ⟨.ref a, hv, (a :: as).length, lkN_all (a :: as) nd (fun b q => ?_) fun H' h1 h2 => ?_⟩
  · rcases List.mem_cons.mp q with rfl | q
    · exact ⟨_, ha, trivial⟩
    · exact hD.mut b q
  have hi : i < r.length := (List.getElem?_eq_some_iff.mp e).1
  have jn : ∀ b ∈ fp i, J b = none := fun b q => (w.jn i b q).1
  rw [← hg] at h1 h2
  let J' : Hp := fun b => if b ∈ fp i then H' b else J b
  have jin : ∀ b ∈ fp i, J' b = H' b := fun b q => if_pos q
  have jout : ∀ b, b ∉ fp i → J' b = J b := fun b q => if_neg q
  have js : Same J J' := fun b u q => by
    rw [jout b fun z => by rw [jn b z] at q; cases q]
    exact q
  have sm : Same J' H' := fun b u q => by
    by_cases z : b ∈ fp i
    · rw [jin b z] at q; exact q
    · rw [jout b z] at q; rw [h2 b z]; exact w.same b u q
  have st : Step (fun b => b ∈ fp i) H J (fun _ => False) H' J' := ⟨js, fun b o h n => by rw [h2 b n]; exact h, fun _ h => h.elim, fun b q => by
    by_cases z : b ∈ fp i
    · exact .inr (.inl z)
    · rw [jout b z] at q; exact .inl q⟩
  have w2 := (w.drop i).step st sm fun b q z => own_wipe_ne w z q
  have hai : a ∈ fp i := by rw [hg]; simp
  have sh : Sh K J' (.ref a) (ddD kss) := by
    obtain ⟨od, u, e1, e2⟩ := h1 a hai
    rw [ha] at e1
    cases e1
    unfold ddD dictD
    refine .dK (o := od) (ks := ks) (by rw [jin a hai]; exact e2) ?_ ?_
    · rw [List.map_map]; exact k1
    · rw [k2, List.map_map]
      exact hD.shs (H' := H') js fun b hb => by
        obtain ⟨od', u', q1, q2⟩ := h1 b (by rw [hg]; simp [hb])
        exact ⟨od', u', q1, by rw [jin b (by rw [hg]; simp [hb])]; exact q2⟩
  have w3 := w2.putKeep (i := i) (s := .sh (ddD kss)) (g := []) (by rw [List.length_set]; exact hi) hv ⟨rfl, sh⟩ fun b z => nomatch z
  rw [List.set_set] at w3
  refine k (.ref a) H' J' _ sh w3 ⟨js, fun b o h n => st.fr b o h fun z => n ⟨i, z⟩, fun b q => .inl (own_wipe (own_wipe q)), fun b q => ?_⟩
  rcases st.jg b q with z | z | z
  · exact .inl z
  · exact .inr (.inl ⟨i, z⟩)
  · exact .inr (.inr z)
end
end Ev
end

section
set_option Elab.async false
set_option linter.all false
set_option maxRecDepth 100000
set_option maxHeartbeats 4000000
namespace Ev
open PySem L2
variable [Errs]
section
variable {K : PySem.W.Frag} {J : Hp}
end
section
variable {K : PySem.W.Frag} {W : WX} {sg : St} {H J : Hp} {fp : Nat → List Addr} {Phi : Nat → Ro → FR}
end
section
variable {K : PySem.W.Frag} {W : WX} {sg : St} {H J : Hp} {r : Ro} {fp : Nat → List Addr} {Phi : Nat → Ro → FR}
theorem Wf.freezeT (w : Wf K H J sg r fp) {i : Nat} {d : PyData} {ds : List PyData} (e : r[i]? = some (.tl d ds)) : ∃ v J', Sh K J' v (.tuple [d, .list ds]) ∧ sg[i]? = some (some v) ∧ Wf K H J' sg (r.set i (.sh (.tuple [d, .list ds]))) (fpSet fp i []) ∧ Step (Own fp) H J (Own (fpSet fp i [])) H J' := by
  obtain ⟨v, hv, a0, a, vd, xs, rfl, hg, hja, hvd, ha, hxs⟩ := w.rep i _ e (fun z => nomatch z)
  have hi : i < r.length := (List.getElem?_eq_some_iff.mp e).1
  have own : Own fp a := ⟨i, by rw [hg]; exact List.mem_singleton.mpr rfl⟩
  have jn := (w.jn i a (by rw [hg]; exact List.mem_singleton.mpr rfl)).1
  have js : Same J (upd J a (.lst xs)) := fun b u q => by rw [upd_ne (ne_of_none q jn)]; exact q
  have sm : Same (upd J a (.lst xs)) H := fun b u q => by
    by_cases z : b = a
    · rw [z, upd_same] at q; rw [z, ← q]; exact ha
    · rw [upd_ne z] at q; exact w.same b u q
  have w1 := w.drop i
  have st : Step (fun b => b = a) H J (fun _ => False) H (upd J a (.lst xs)) := ⟨js, fun _ _ h _ => h, fun _ h => h.elim, fun b q => by
    by_cases z : b = a
    · exact .inr (.inl z)
    · rw [upd_ne z] at q; exact .inl q⟩
  have hd' : Sh K (upd J a (.lst xs)) (.ref a0) (.tuple [d, .list ds]) := .tup (js _ _ hja) (.cons (shMono js hvd) (.cons (.lst upd_same (shsMono js hxs)) .nil))
  have w2 : Wf K H (upd J a (.lst xs)) sg (r.set i .non) (fpSet fp i []) := w1.step st sm fun b q2 z => by
    have z2 : b = a := z
    rw [z2] at q2
    exact own_wipe_ne w (by rw [hg]; exact List.mem_singleton.mpr rfl) q2
  refine ⟨_, upd J a (.lst xs), hd', hv, ?_, js, fun _ _ h _ => h, fun b q => .inl (own_wipe q), fun b q => (st.jg b q).imp id fun z => z.imp (fun y => by rw [y]; exact own) id⟩
  have w3 := w2.putKeep (i := i) (s := .sh (.tuple [d, .list ds])) (v := .ref a0) (g := []) (by rw [List.length_set]; exact hi) hv ⟨rfl, hd'⟩ (fun b q => nomatch q)
  rw [List.set_set] at w3
  have e2 : fpSet (fpSet fp i []) i [] = fpSet fp i [] := by
    funext j
    by_cases z : j = i
    · rw [z, fpSet_same, fpSet_same]
    · rw [fpSet_ne z]
  rw [e2] at w3
  exact w3
def BoR (K : PySem.W.Frag) (J : Hp) (sg : St) : Bo → V → Prop
  | .d d, v => Sh K J v d
  | .w i, v => sg[i]? = some (some v)
  | .s i, v => ∃ a v0, sg[i]? = some (some (.ref a)) ∧ J a = some (.tup [v0, v])
theorem BoR.mono {J' : Hp} (js : Same J J') : ∀ {b : Bo} {v : V}, BoR K J sg b v → BoR K J' sg b v
  | .d _, _, h => shMono js h
  | .w _, _, h => h
  | .s _, _, ⟨a, v0, h1, h2⟩ => ⟨a, v0, h1, js _ _ h2⟩
def tSnd (i : Nat) : TE := fun sg H Q => ∃ a v0 v1, sg[i]? = some (some (.ref a)) ∧ H a = some (.tup [v0, v1]) ∧ Q v1 H
def isLent : CE → Bool
  | .ref _ => true
  | .snd _ => true
  | _ => false
def bE (K : PySem.W.Frag) (W : WX) (Phi : Nat → Ro → FR) : CE → TE
  | .ref i => tVar i
  | .snd i => tSnd i
  | e => tSh K W Phi e
def bT (K : PySem.W.Frag) (W : WX) (Phi : Nat → Ro → FR) : CEs → TA
  | .nil => tNil
  | .cons e es => tCons (bE K W Phi e) (bT K W Phi es)
theorem bE_gen {e : CE} (h : isLent e = false) : bE K W Phi e = tSh K W Phi e := by
  cases e <;> first | (cases h; done) | rfl
end
end Ev
end

section
set_option Elab.async false
set_option linter.all false
set_option maxRecDepth 100000
set_option maxHeartbeats 4000000
namespace Ev
open PySem L2
variable [Errs]

theorem shsErase {K : PySem.W.Frag} {J : Hp} : ∀ {vs : List V} {ds : List PyData} (j : Nat), ShAll K J vs ds → ShAll K J (vs.eraseIdx j) (ds.eraseIdx j)
  | _, _, _, .nil => .nil
  | _, _, 0, .cons _ g => g
  | _, _, j + 1, .cons h g => .cons h (shsErase j g)
theorem mt_popAt' {X : Cx} : MtM X "list.pop" (fun x vs H Q => ∃ l xs i k y, x = .ref l ∧ vs = [.int i] ∧ H l = some (.lst xs) ∧ ixN xs.length i = some k ∧ xs[k]? = some y ∧ Q y (upd H l (.lst (xs.eraseIdx k)))) := by
  intro pins s sg H x vs v us Q I rx rv h
  obtain ⟨l, xs, i, k, y, rfl, rfl, hH, hi, hy, q⟩ := h
  have hl := (I.lstM hH).1
  rw [sizeLine_eq] at hl
  obtain ⟨b1, b2, b3, b4⟩ := ixN_seq hi
  exact mt_popAt pins s sg H _ _ v us Q I rx rv ⟨l, xs, i, k, y, rfl, rfl, hH, by omega, by omega, b1, hy, q⟩

section
variable {P : Prg} {N : List Str} {k : Nat} {Phi : Nat → Ro → FR}
theorem getV_ok {X : Cx} {sc : Scope} {fb : Str → Bool} {W : WX} {i : Nat} {x : Str} {p : Pos} {c : CE} (hc : ∀ r, ev Phi c r = getV i r) (g : Good P N k Phi X sc fb) (h : isV N sc i x = true) : PE X (.Name x p) (tEv X.K W Phi c) := by
  refine PE.imp (PE.lkS (isV_ok g h)) fun sg H Q ⟨J, r, fp, w, f⟩ => ?_
  rw [hc] at f
  simp only [getV] at f
  split at f
  · rename_i d e
    obtain ⟨v, hv, q⟩ := w.rep i _ e (fun z => nomatch z)
    exact ⟨v, hv, 0, f v H J fp [] w ⟨rfl, q.2⟩ (fun b z => nomatch z) (nil_step Step.refl)⟩
  · rename_i ds e
    obtain ⟨v, J', q, hv, w', t⟩ := w.freeze e
    exact ⟨v, hv, 0, f v H J' _ [] w' ⟨rfl, q⟩ (fun b z => nomatch z) (nil_step t)⟩
  · rename_i tt kvs e
    obtain ⟨a, ho, hv, ha, mu, k⟩ := w.freezeD e
    refine ⟨.ref a, hv, 1, .inr ⟨a, ho, ha, mu, fun od => ?_⟩⟩
    obtain ⟨J', q, w', t⟩ := k od
    exact f (.ref a) _ J' _ [] w' ⟨rfl, q⟩ (fun b z => nomatch z) (nil_step t)
  · rename_i dss e
    obtain ⟨v, J', fp', q, hv, w', t⟩ := w.freezeLL e
    exact ⟨v, hv, 0, f v H J' fp' [] w' ⟨rfl, q⟩ (fun b z => nomatch z) (nil_step t)⟩
  · rename_i kss e
    exact w.freezeDD e fun v H' J' fp' q w' t => f v H' J' fp' [] w' ⟨rfl, q⟩ (fun b z => nomatch z) (nil_step t)
  · rename_i d ds e
    obtain ⟨v, J', q, hv, w', t⟩ := w.freezeT e
    exact ⟨v, hv, 0, f v H J' _ [] w' ⟨rfl, q⟩ (fun b z => nomatch z) (nil_step t)⟩
  · exact f.elim
theorem soundVar {X : Cx} {sc : Scope} {fb : Str → Bool} {W : WX} {i : Nat} {x : Str} {p : Pos} (g : Good P N k Phi X sc fb) (h : isV N sc i x = true) : PE X (.Name x p) (tEv X.K W Phi (.var i)) := getV_ok (fun r => by simp only [ev]) g h
theorem soundShr {X : Cx} {sc : Scope} {fb : Str → Bool} {W : WX} {i : Nat} {x : Str} {p : Pos} (g : Good P N k Phi X sc fb) (h : isV N sc i x = true) : PE X (.Name x p) (tEv X.K W Phi (.shr i)) := getV_ok (fun r => by simp only [ev]) g h
theorem place_ok {X : Cx} {sc : Scope} {fb : Str → Bool} {W : WX} {i : Nat} {x : Str} {p : Pos} {f1 : CE → Ro → R Od} {c : CE} (hc : ∀ r, f1 c r = if has r i = true then .ok (.pl i) r else .bad) (g : Good P N k Phi X sc fb) (h : isV N sc i x = true) : PE X (.Name x p) (tOpd X.K W f1 c) := by
  refine PE.imp (isV_ok g h) fun sg H Q ⟨J, r, fp, w, f⟩ => ?_
  rw [hc] at f
  split at f
  · rename_i hh
    obtain ⟨s, e, ne⟩ := has_some hh
    obtain ⟨v, hv, q⟩ := w.rep i s e ne
    exact ⟨v, hv, f v H J fp [] w ⟨rfl, hv⟩ (nil_step Step.refl)⟩
  · exact f.elim
theorem PE.opd {X : Cx} {sc : Scope} {fb : Str → Bool} {W : WX} {c : CE} {e : Expr} (g : Good P N k Phi X sc fb) (h : okE P.tx N sc c e = true) (q : PE X e (tEv X.K W Phi c)) : PE X e (tOpd X.K W (rd1 Phi) c) := by
  have gen : (∀ r, rd1 Phi c r = (ev Phi c r).sh.bind fun d r1 => .ok (.da d) r1) → PE X e (tOpd X.K W (rd1 Phi) c) := fun e1 =>
    PE.imp (PE.sh q) fun sg H Q ⟨J, r, fp, w, f⟩ => ⟨J, r, fp, w, finO_sh (by rw [e1] at f; exact f)⟩
  cases c with
  | var i =>
    cases e <;> simp only [okE, Bool.false_eq_true] at h
    exact place_ok (fun r => rfl) g h
  | _ => exact gen fun r => rfl
theorem PE.own {X : Cx} {W : WX} {c : CE} {e : Expr} (q : PE X e (tEv X.K W Phi c)) : PE X e (tOpd X.K W (ar1 Phi) (.own c)) := PE.imp q fun sg H Q ⟨J, r, fp, w, f⟩ => by
  refine ⟨J, r, fp, w, ?_⟩
  simp only [ar1] at f
  cases e : ev Phi c r with
  | bad => rw [e] at f; exact f
  | ex c fs r1 => rw [e] at f; exact f
  | ok s r1 =>
    rw [e] at f
    simp only [R.ok_bind] at f
    intro v H1 J1 fp1 g w1 rp n t
    exact f v H1 J1 fp1 g w1 ⟨rp, n⟩ t
theorem PE.arg {X : Cx} {sc : Scope} {fb : Str → Bool} {W : WX} {c : CE} {e : Expr} (g : Good P N k Phi X sc fb) (h : okE P.tx N sc c e = true) (q : PE X e (tEv X.K W Phi c)) (q2 : ∀ c', c = .own c' → PE X e (tOpd X.K W (ar1 Phi) (.own c'))) : PE X e (tOpd X.K W (ar1 Phi) c) := by
  have gen : (∀ r, ar1 Phi c r = (ev Phi c r).sh.bind fun d r1 => .ok (.da d) r1) → PE X e (tOpd X.K W (ar1 Phi) c) := fun e1 =>
    PE.imp (PE.sh q) fun sg H Q ⟨J, r, fp, w, f⟩ => ⟨J, r, fp, w, finO_sh (by rw [e1] at f; exact f)⟩
  cases c with
  | ref i =>
    cases e <;> simp only [okE, Bool.false_eq_true] at h
    exact place_ok (fun r => rfl) g h
  | own c => exact q2 c rfl
  | _ => exact gen fun r => rfl
theorem PE.itm {X : Cx} {W : WX} {c : CE} {e : Expr} (q : PE X e (tEv X.K W Phi c)) : PE X e (tOpd X.K W (it1 Phi) c) :=
  PE.imp (PE.sh q) fun sg H Q ⟨J, r, fp, w, f⟩ => ⟨J, r, fp, w, finO_sh f⟩

theorem disp_read {X : Cx} {W : WX} {es : CEs} {sg : St} {H : Hp} {Q : List V → Hp → Prop} {J : Hp} {r : Ro} {fp : Nat → List Addr} (w : Wf X.K H J sg r fp)
    (h : match evs Phi es r with
      | .ok ds r' => ∀ vs H' J' fp', Wf X.K H' J' sg r' fp' → ShAll X.K J' vs ds → vs.length = es.len → Step (Own fp) H J (Own fp') H' J' → Q vs H'
      | .ex c fs r' => ∀ H' J' fp' cls d, Wf X.K H' J' sg r' fp' → XRep X.K H' J' c fs cls d → Step (Own fp) H J (Own fp') H' J' → W cls d sg H'
      | .bad => False) : seqOpd X.K W (it1 Phi) es sg H Q := by
  refine seqOpd_of es w ?_
  rw [evs_many] at h
  cases e : many (it1 Phi) es r with
  | bad => rw [e] at h; exact h
  | ex c fs r1 => rw [e] at h; exact h
  | ok x r1 =>
    rw [e] at h
    simp only [R.ok_bind] at h
    intro vs H1 J1 fp1 gs w1 o1 t1
    obtain ⟨rfl, q⟩ := o1.shared (it1_da e)
    exact h vs H1 J1 fp1 w1 q (o1.len.trans (many_len e)) (step_nil t1)

theorem bin_ok {X : Cx} {o : Op} {op : Operator} (h : binOf o = some op) : OpR X (binaryOp op) (rPrim2 X.K o) := by
  cases o <;> cases h
  · exact pm_add
  · exact pm_sub
  · exact pm_mul
  · exact pm_fdiv
  · exact pm_mod
  · exact pm_pow
  · exact pm_shl
  · exact pm_shr
  · exact pm_bor
  · exact pm_band
theorem cmp_ok {X : Cx} {sc : Scope} {fb : Str → Bool} {o : Op} {op : CmpOp} (g : Good P N k Phi X sc fb) (h : cmpOf o = some op) : OpR X (compareOp op) (rPrim2 X.K o) := by
  have hu := g.room.units
  have hu5 : X.A.units + 65 < cLine := by have := g.room.un; omega
  cases o <;> cases h
  · exact pm_eq hu
  · exact pm_ne hu
  · exact pm_lt hu5
  · exact pm_le hu5
  · exact pm_gt hu5
  · exact pm_ge hu5
  · exact pm_is
  · exact pm_isnot
  · exact pm_in hu5
  · exact pm_notin hu5
theorem noset {op : CmpOp} {b : Expr} (h : isSet b = false) : behindInMarks op b = false := by
  cases b <;> first | rfl | (simp [isSet] at h)
theorem bname_ok {X : Cx} {sc : Scope} {fb : Str → Bool} {o : Op} {x : Str} {e : Expr} {es : List Expr} {t : TA} {p pos : Pos} (g : Good P N k Phi X sc fb) (h : bname o = some x) (hg : isG sc x = true) (hq : P.tx.cm = true ∨ quietO o = true) (ha : PA X (e :: es) t) (hst : ∀ y ∈ e :: es, isStar y = false) :
    PE X (.Call (.Name x p) (e :: es) [] pos) (tCB (rPrim X.K o) t) := by
  obtain ⟨h1, h2⟩ := isG_ok g hg
  have s1 := star_ok (env := X.env) (es := es) (hst e (List.mem_cons_self ..))
  have s2 := plain_ok (pos := pos) (env := X.env) (es := es) fun y q => hst y (List.mem_cons_of_mem _ q)
  have hk : quietO o = false → X.calm = true := fun z => g.calm (hq.elim id fun y => by rw [z] at y; cases y)
  cases o <;> cases h
  · exact pe_callB pm_len h1 (g.blt _ (by simp [bnames])) PySem.boot_len ha (by decide) h2 s1 s2
  · exact pe_callB (pm_max2 (hk rfl)) h1 (g.blt _ (by simp [bnames])) (by decide +kernel) ha (by decide) h2 s1 s2
  · exact pe_callB (pm_min2 (hk rfl)) h1 (g.blt _ (by simp [bnames])) (by decide +kernel) ha (by decide) h2 s1 s2
  · exact pe_callTy pm_int h1 (g.blt _ (by simp [bnames])) (by decide +kernel) ha (by decide) h2 s1 s2
  · exact pe_callTy pm_list h1 (g.blt _ (by simp [bnames])) (by decide +kernel) ha (by decide) h2 s1 s2
  · exact pe_callTy pm_tuple h1 (g.blt _ (by simp [bnames])) (by decide +kernel) ha (by decide) h2 s1 s2
  · exact pe_callB (pm_sorted (hk rfl) g.room.units) h1 (g.blt _ (by simp [bnames])) (by decide +kernel) ha (by decide) h2 s1 s2
  · exact pe_callB (pm_sum (hk rfl)) h1 (g.blt _ (by simp [bnames])) (by decide +kernel) ha (by decide) h2 s1 s2
  · exact pe_callB (pm_all (hk rfl)) h1 (g.blt _ (by simp [bnames])) (by decide +kernel) ha (by decide) h2 s1 s2
  · exact pe_callB (pm_any (hk rfl)) h1 (g.blt _ (by simp [bnames])) (by decide +kernel) ha (by decide) h2 s1 s2
  · exact pe_callB (pm_repr g.gd (by have := g.room.un; omega)) h1 (g.blt _ (by simp [bnames])) (by decide +kernel) ha (by decide) h2 s1 s2
  · exact pe_callTy pm_str h1 (g.blt _ (by simp [bnames])) (by decide +kernel) ha (by decide) h2 s1 s2
  · exact pe_callTy (pm_dict (hk rfl) (by have := g.room.un; omega)) h1 (g.blt _ (by simp [bnames])) (by decide +kernel) ha (by decide) h2 s1 s2
  · exact pe_callB (pm_maxT (hk rfl) g.room.units) h1 (g.blt _ (by simp [bnames])) (by decide +kernel) ha (by decide) h2 s1 s2
theorem isi_ok {X : Cx} {sc : Scope} {fb : Str → Bool} {t : String} {a : Expr} {ta : TE} {p p2 pos : Pos} (g : Good P N k Phi X sc fb) (hg : isG sc "isinstance" = true) (hg2 : isG sc (Str.ofString t) = true) (ht : tyOk t = true) (ha : PE X a ta) (hst : isStar a = false) :
    PE X (.Call (.Name "isinstance" p) [a, .Name (Str.ofString t) p2] [] pos) (tCB (rIsiP X.K t) (tCons ta (tCons (tC (.ty t)) tNil))) := by
  obtain ⟨h1, h2⟩ := isG_ok g hg
  obtain ⟨h3, h4⟩ := isG_ok g hg2
  have s1 := star_ok (env := X.env) (es := [.Name (Str.ofString t) p2]) hst
  have hb : ∃ v, X.mg (Str.ofString t) = none ∧ bootBuiltins (Str.ofString t) = some (.type t) ∧ (Str.ofString t : Str) ≠ "__name__" ∧ v = 0 := by
    simp only [tyOk, Bool.or_eq_true, beq_iff_eq] at ht
    rcases ht with ((((rfl | rfl) | rfl) | rfl) | rfl) | rfl
    · exact ⟨0, g.blt _ (by simp [bnames]), by decide +kernel, by decide +kernel, rfl⟩
    · exact ⟨0, g.blt _ (by simp [bnames]), by decide +kernel, by decide +kernel, rfl⟩
    · exact ⟨0, g.blt _ (by simp [bnames]), by decide +kernel, by decide +kernel, rfl⟩
    · exact ⟨0, g.blt _ (by simp [bnames]), by decide +kernel, by decide +kernel, rfl⟩
    · exact ⟨0, g.blt _ (by simp [bnames]), by decide +kernel, by decide +kernel, rfl⟩
    · exact ⟨0, g.blt _ (by simp [bnames]), by decide +kernel, by decide +kernel, rfl⟩
  obtain ⟨_, b1, b2, b3, _⟩ := hb
  have pt : PE X (.Name (Str.ofString t) p2) (tC (.ty t)) := pe_bltn h3 b1 b2 rfl b3 h4
  exact pe_callB (pm_isi (t := t)) h1 (g.blt _ (by simp [bnames])) (by decide +kernel) (pa_cons ha (pa_cons pt pa_nil rfl) s1) (by decide) h2 s1 rfl
section
variable {X : Cx} {sc : Scope} {fb : Str → Bool}
theorem mthd_ok {m : Str} {i : Nat} {e x : Expr} (h : mthd N m i sc e = some x) : ∃ y p ap cp, e = .Call (.Attribute (.Name y p) m ap) [x] [] cp ∧ isV N sc i y = true ∧ isStar x = false ∧ (ap.endLine == cp.line) = true := by
  unfold mthd at h
  split at h
  · split at h
    · rename_i hc
      cases h
      simp only [Bool.and_eq_true, decide_eq_true_eq, Bool.not_eq_true'] at hc
      obtain ⟨⟨⟨rfl, h2⟩, h3⟩, h4⟩ := hc
      exact ⟨_, _, _, _, rfl, h2, h3, h4⟩
    · cases h
  · cases h
theorem meth_list {m : Str} {id : String} {rr : V → List V → Hp → VK → Prop} {y : Str} {p ap cp : Pos} {x : Expr} {i : Nat} {t : TE} (g : Good P N k Phi X sc fb) (slot : PySem.Slot "list" m id) (hty : typeOf (.builtin id) = pure (.type "method_descriptor")) (hm : MtM X id rr) (hv : isV N sc i y = true) (hs : isStar x = false) (hl : (ap.endLine == cp.line) = true) (hx : PE X x t) :
    PE X (.Call (.Attribute (.Name y p) m ap) [x] [] cp) (tBM X.K "list" rr (tVar i) (tCons t tNil)) := by
  have st := star_ok (env := X.env) (es := []) hs
  refine pe_bm PySem.F.plainAttrs_list slot hty hm (isV_ok g hv) (pa_cons hx pa_nil st) rfl ?_ hl st rfl
  rw [st]
  rfl

end
end
section
variable {K : PySem.W.Frag} {W : WX} {sg : St} {H J : Hp} {fp : Nat → List Addr} {Phi : Nat → Ro → FR}
theorem Fin.prim {s : Slot} {r : Ro} {Q : V → Hp → Prop} (w : Wf K H J sg r fp) (f : Fin K W (RepS K) sg H J fp (.ok s r) Q) : PrimQ K H J s Q := by
  intro v H2 J2 g q n st sm
  refine f v H2 J2 fp g (w.step st sm fun a _ z => z) q (fun b z => ⟨(n b z).1, fun ⟨j, y⟩ => ?_⟩) ⟨st.js, fun b o q _ => st.fr b o q id, fun b q => ?_, fun b q => (st.jg b q).imp id fun z => z.imp False.elim id⟩
  · obtain ⟨_, o, ho, _⟩ := w.jn j b y
    rw [(n b z).2] at ho
    cases ho
  · rcases q with q | q
    · exact .inl q
    · exact (st.fn b q).imp False.elim id
theorem xop_op {o : Op} {es : CEs} {Q : V → Hp → Prop} (h : tEv K W Phi (.xop o es) sg H Q) : tEv K W Phi (.op o es) sg H Q := by
  obtain ⟨J, r, fp, w, f⟩ := h
  refine ⟨J, r, fp, w, ?_⟩
  simp only [ev] at f ⊢
  exact f
theorem Vw.step {v : V} {d : PyData} {H1 J1 : Hp} {F : Addr → Prop} (h : Vw K H J v d) (t : Step (fun _ => False) H J F H1 J1) : Vw K H1 J1 v d := by
  rcases h with h | ⟨a, xs, ds, h1, h2, h3, h4⟩ | ⟨a, ho, tt, kvs, h1, h2, h3, h4⟩
  · exact .inl (shMono t.js h)
  · exact .inr (.inl ⟨a, xs, ds, h1, h2, t.fr a _ h3 id, shsMono t.js h4⟩)
  · exact .inr (.inr ⟨a, ho, tt, kvs, h1, h2, h3.elim (fun e => .inl (t.fr a _ e id)) (fun ⟨o, e⟩ => .inr ⟨o, t.fr a _ e id⟩), h4.mono t.js⟩)
theorem Vws.step {H1 J1 : Hp} {F : Addr → Prop} (t : Step (fun _ => False) H J F H1 J1) : ∀ {vs : List V} {ds : List PyData}, Vws K H J vs ds → Vws K H1 J1 vs ds
  | _, _, .nil => .nil
  | _, _, .cons h k => .cons (h.step t) (k.step t)
theorem rPrim.new {o : Op} {vs : List V} {Q : VK} {p : Addr} {ho : HO} (h : rPrim K o vs H Q) (hp : H p = none) : rPrim K o vs (upd H p ho) Q := by
  obtain ⟨J, ds, s, sm, vw, ep, q⟩ := h
  have st : Step (fun _ => False) H J (fun _ => False) (upd H p ho) (upd J p ho) := step_new sm hp
  refine ⟨upd J p ho, ds, s, same_upd2 sm, vw.step st, ep, fun v H' J' g rp n t sm' => q v H' J' g rp (fun b z => ⟨(n b z).1, ?_⟩) (st.trans t) sm'⟩
  have := (n b z).2
  by_cases e : b = p
  · rw [e]; exact hp
  · rw [upd_ne e] at this; exact this
end
end Ev
end

section
set_option Elab.async false
set_option linter.all false
set_option maxRecDepth 100000
set_option maxHeartbeats 4000000
namespace Ev
open PySem L2
variable [Errs]

def IsK (R : It → Hp → Prop) (x : V) (H1 : Hp) : Prop := ∃ d o, x = .ref d ∧ ((∃ ks, H1 d = some (.frz o (.dK ks)) ∧ (ks.length ≤ sizeLine → R (Itk d o ks) H1)) ∨ ∃ ks, H1 d = some (.frz o (.dT ks)) ∧ (ks.length ≤ sizeLine → R (Itkt d o ks) H1))
def IsSq (K : PySem.W.Frag) (R : It → Hp → Prop) (x : V) (H1 : Hp) : Prop := (∃ a xs, x = .ref a ∧ SqL K H1 a xs ∧ (xs.length ≤ sizeLine → R (Itl K a) H1)) ∨ (∃ a xs, x = .ref a ∧ SqT K H1 a xs ∧ (xs.length ≤ sizeLine → R (Itt K a) H1)) ∨ IsK R x H1 ∨ ∃ z, x = .str z ∧ R (Its z) H1
def iSeq (K : PySem.W.Frag) (tl : TE) : TI := fun sg H R => tl sg H (IsSq K R)
theorem pi_seq {X : Cx} {tg l : Expr} {tl : TE} (hl : PE X l tl) : PI X tg l (iSeq X.K tl) := by
  refine ⟨fun pins s sg H R I h => ?_⟩
  refine thn (hl.run pins s sg H _ I h) fun v s1 ⟨x, H1, I1, r1, q1⟩ => ?_
  rcases q1 with ⟨a, xs, e, hq, q⟩ | ⟨a, xs, e, hq, q⟩ | ⟨d, o, e, q⟩ | ⟨z, e, q⟩
  · subst e
    cases r1
    obtain ⟨its, rv, p, hz⟩ := I1.list hq
    refine wpAny_pyIter_list p.isList ?_
    refine ⟨s1.heap.objs.size, [s1.heap.objs.size], _, _, H1, rfl, I1.kept (t' := s1.toks) fun b o e => Heap.get?_push_of_some _ e, turn_list a _, ⟨_, Heap.get?_push_size _ rfl, rfl, rfl⟩, fun b hb => ?_, q hz⟩
    have e : b = s1.heap.objs.size := by simpa using hb
    subst e
    exact I1.fpOk (Nat.le_refl _) (I1.hok.fresh (Nat.le_refl _))
  · subst e
    cases r1
    obtain ⟨its, rv, p, hz⟩ := I1.tuple hq
    refine wpAny_pyIter_tuple (show s1.heap.IsTuple a its.toArray from p) ?_
    refine ⟨s1.heap.objs.size, [s1.heap.objs.size], _, _, H1, rfl, I1.kept (t' := s1.toks) fun b o e => Heap.get?_push_of_some _ e, turn_tuple a _, ⟨_, Heap.get?_push_size _ rfl, rfl, rfl⟩, fun b hb => ?_, q hz⟩
    have e : b = s1.heap.objs.size := by simpa using hb
    subst e
    exact I1.fpOk (Nat.le_refl _) (I1.hok.fresh (Nat.le_refl _))
  · subst e
    obtain rfl : v = Value.ref d := r1
    rcases q with ⟨ks, hd, q⟩ | ⟨ks, hd, q⟩
    · obtain ⟨h1, h2, h3, es, ep, _, h4, h5, _, _⟩ := I1.frzK hd
      obtain ⟨_, hz, _⟩ := I1.hok d _ hd
      exact iter_keys h1 h2 h3 h4 (pi_one (tk := s1.toks) I1 _ (turn_keys _ h4) ⟨_, Heap.get?_push_size _ rfl, rfl, by rw [h5]; rfl⟩ (q hz))
    · obtain ⟨h1, h2, h3, es, ep, h4, h5, _⟩ := I1.frzT hd
      obtain ⟨_, hz, _⟩ := I1.hok d _ hd
      exact iter_keys h1 h2 h3 h4 (pi_one (tk := s1.toks) I1 _ (turn_keysT _ h4) ⟨_, Heap.get?_push_size _ rfl, rfl, by rw [h5]; rfl⟩ (q hz))
  · subst e
    obtain ⟨t, rfl⟩ := r1
    by_cases ha : z.cps.all (· < 128) = true
    · exact wpAny_pyIter_ascii ha (pi_one (tk := s1.toks) I1 _ (turn_str _ z t _ (.inl rfl)) ⟨_, Heap.get?_push_size _ rfl, rfl, rfl⟩ q)
    · exact wpAny_pyIter_wide (by simpa using ha) (pi_one (tk := s1.toks) I1 _ (turn_str _ z t _ (.inr rfl)) ⟨_, Heap.get?_push_size _ rfl, rfl, rfl⟩ q)

section
variable {K : PySem.W.Frag} {W : WX} {sg : St} {H J : Hp} {fp : Nat → List Addr} {Phi : Nat → Ro → FR}
theorem seqI_cases (d : PyData) (l : List Lk) (r : Ro) : seqI d l r = .bad ∨ ∃ xs, seqI d l r = .ok (xs, l) r := by
  unfold seqI
  split <;> first | exact .inr ⟨_, rfl⟩ | exact .inl rfl | (split <;> first | exact .inr ⟨_, rfl⟩ | exact .inl rfl)
theorem chrsD_len (z : Str) : (chrsD z).length = z.length := by unfold chrsD; rw [List.length_map]; exact Array.length_toList
theorem walks_str (z : Str) : Walks K (Its z) (chrsD z) (fun _ _ => True) where
  go := fun i H J _ _ h => by rw [chrsD_len] at h; exact h
  stop := fun i H J _ _ h _ => by rw [chrsD_len] at h; exact h
  yld := fun i H J v H' sm _ h y => by
    obtain ⟨rfl, c, hc, rfl⟩ := y
    refine ⟨J, .str ⟨#[c]⟩, ?_, .str _, sm, True.intro, Step.refl⟩
    unfold chrsD
    rw [List.getElem?_map, Array.getElem?_toList, hc]; rfl
theorem keyDK_sh {J : Hp} (k : Key) : Sh K J (kV k) (keyDK k) := by
  cases k with
  | inl i => exact .int i
  | inr x => exact .str x
theorem keysDK_sh {J : Hp} : ∀ (k : List Key), ShAll K J (k.map kV) (k.map keyDK)
  | [] => .nil
  | a :: k => .cons (keyDK_sh a) (keysDK_sh k)
theorem walks_K {a : Addr} {o : Obj} {ks : List (Key × V)} {kvs : List (PyData × PyData)} (e : kvs.map (·.1) = ks.map fun k => keyDK k.1) : Walks K (Itk a o ks) (kvs.map (·.1)) (fun _ J => J a = some (.frz o (.dK ks))) where
  go := fun i H J sm s h => ⟨sm _ _ s, by rw [e, List.length_map] at h; exact h⟩
  stop := fun i H J sm s h _ => ⟨sm _ _ s, by rw [e, List.length_map] at h; exact h⟩
  yld := fun i H J v H' sm s h y => by
    obtain ⟨rfl, k, u, hk, rfl⟩ := y
    exact ⟨J, keyDK k, by rw [e, List.getElem?_map, hk]; rfl, keyDK_sh k, sm, s, Step.refl⟩
theorem share_keys {H J : Hp} (sm : Same J H) {q : Addr} {k : List Key} (hq : H q = some (.tup (k.map kV))) : Sh K (upd J q (.tup (k.map kV))) (.ref q) (.tuple (k.map keyDK)) ∧ Same (upd J q (.tup (k.map kV))) H ∧ Step (fun _ => False) H J (fun _ => False) H (upd J q (.tup (k.map kV))) := by
  have js : Same J (upd J q (.tup (k.map kV))) := fun b u e => by
    by_cases z : b = q
    · rw [z, upd_same]; rw [z] at e; rw [← hq]; exact sm _ _ e
    · rw [upd_ne z]; exact e
  refine ⟨.tup upd_same (keysDK_sh k), fun b u e => ?_, js, fun _ _ h _ => h, fun _ h => h.elim, fun b e => ?_⟩
  · by_cases z : b = q
    · rw [z, upd_same] at e; rw [z, ← e]; exact hq
    · rw [upd_ne z] at e; exact sm _ _ e
  · by_cases z : b = q
    · rw [z]; exact .inr (.inr (.inr ⟨_, hq⟩))
    · rw [upd_ne z] at e; exact .inl e
theorem walks_T {a : Addr} {o : Obj} {ks : List (List Key × V)} {kvs : List (PyData × PyData)} (e : kvs.map (·.1) = ks.map fun k => PyData.tuple (k.1.map keyDK)) : Walks K (Itkt a o ks) (kvs.map (·.1)) (fun _ J => J a = some (.frz o (.dT ks))) where
  go := fun i H J sm s h => ⟨sm _ _ s, by rw [e, List.length_map] at h; exact h⟩
  stop := fun i H J sm s h _ => ⟨sm _ _ s, by rw [e, List.length_map] at h; exact h⟩
  yld := fun i H J v H' sm s h y => by
    obtain ⟨rfl, k, u, q, hk, rfl, hq⟩ := y
    obtain ⟨h1, h2, h3⟩ := share_keys (K := K) sm hq
    exact ⟨_, .tuple (k.map keyDK), by rw [e, List.getElem?_map, hk]; rfl, h1, h2, h3.js _ _ s, h3⟩
theorem seq_std {d : PyData} {r1 : Ro} {ls : List Lk} {g : List Addr} {Q : It → Hp → Prop} {v : V} {H1 J1 : Hp} {fp1 : Nat → List Addr} (w1 : Wf K H1 J1 sg r1 fp1) (q : Std K g H1 J1 v d) (lk : Lks K H1 J1 fp1 sg ls g)
    (f : match seqI d ls r1 with
      | .ok a r' => ∀ T S, Walks K T a.1 S → S H1 J1 → Keeps g S → r' = r1 → a.2 = ls → a.1.length ≤ sizeLine → Q T H1
      | _ => False) :
    IsSq K Q v H1 := by
  cases d with
  | list ds =>
    obtain ⟨a, xs, rfl, h1, h2⟩ := q.list w1.same
    refine .inl ⟨a, xs, rfl, h1, fun hl => ?_⟩
    refine f (Itl K a) (fun H J => Std K g H J (.ref a) (.list ds)) ?_ q (fun F F' H J H' J' s t n => s.keep t n) rfl rfl (by rw [← shsLen h2]; exact hl)
    constructor
    · intro i H J sm s h
      obtain ⟨_, xs, e, h1, h2⟩ := s.list sm
      cases e
      have : i < xs.length := by rw [shsLen h2]; exact h
      exact ⟨xs, xs[i], h1, by simp [this]⟩
    · intro i H J sm s h _
      obtain ⟨_, xs, e, h1, h2⟩ := s.list sm
      cases e
      exact ⟨xs, h1, by rw [shsLen h2]; exact h⟩
    · intro i H J v H' sm s h y
      obtain ⟨e, y⟩ := y
      subst e
      obtain ⟨_, xs, e, h1, h2⟩ := s.list sm
      cases e
      obtain ⟨d, hd, q⟩ := shsGetV h2 (y xs h1)
      exact ⟨J, d, hd, q, sm, s, Step.refl⟩
  | tuple ds =>
    obtain ⟨a, xs, rfl, h1, h2⟩ := q.tuple w1.same
    refine .inr (.inl ⟨a, xs, rfl, h1, fun hl => ?_⟩)
    refine f (Itt K a) (fun H J => Std K g H J (.ref a) (.tuple ds)) ?_ q (fun F F' H J H' J' s t n => s.keep t n) rfl rfl (by rw [← shsLen h2]; exact hl)
    constructor
    · intro i H J sm s h
      obtain ⟨_, xs, e, h1, h2⟩ := s.tuple sm
      cases e
      have : i < xs.length := by rw [shsLen h2]; exact h
      exact ⟨xs, xs[i], h1, by simp [this]⟩
    · intro i H J sm s h _
      obtain ⟨_, xs, e, h1, h2⟩ := s.tuple sm
      cases e
      exact ⟨xs, h1, by rw [shsLen h2]; exact h⟩
    · intro i H J v H' sm s h y
      obtain ⟨e, y⟩ := y
      subst e
      obtain ⟨_, xs, e, h1, h2⟩ := s.tuple sm
      cases e
      obtain ⟨d, hd, q⟩ := shsGetV h2 (y xs h1)
      exact ⟨J, d, hd, q, sm, s, Step.refl⟩
  | none => exact f.elim
  | bool _ => exact f.elim
  | int _ => exact f.elim
  | str z =>
    have ev : v = .str z := by
      rcases q with q | ⟨_, _, _, _, e, _⟩
      · cases q; rfl
      · cases e
    refine .inr (.inr (.inr ⟨z, ev, ?_⟩))
    simp only [seqI] at f
    by_cases hz : small z.length = true
    · rw [if_pos hz] at f
      exact f (Its z) (fun _ _ => True) (walks_str z) True.intro (fun _ _ _ _ _ _ _ _ _ => True.intro) rfl rfl (by rw [chrsD_len, sizeLine_eq]; exact of_decide_eq_true hz)
    · rw [if_neg hz] at f; exact f.elim
  | dict kk =>
    refine .inr (.inr (.inl ?_))
    generalize hd : PyData.dict kk = d at f q
    rcases q with q | ⟨_, _, _, _, e, _⟩
    · cases q with
      | dK h1 h2 h3 =>
        rename_i a o ks kvs
        refine ⟨a, o, rfl, .inl ⟨ks, w1.same _ _ h1, fun hl => ?_⟩⟩
        exact f (Itk a o ks) (fun _ J => J a = some (.frz o (.dK ks))) (walks_K h2) h1 (fun F F' H J H' J' s t _ => t.js _ _ s) rfl rfl (by rw [h2, List.length_map]; exact hl)
      | dT h1 h2 h3 =>
        rename_i a o ks kvs
        refine ⟨a, o, rfl, .inr ⟨ks, w1.same _ _ h1, fun hl => ?_⟩⟩
        exact f (Itkt a o ks) (fun _ J => J a = some (.frz o (.dT ks))) (walks_T h2) h1 (fun F F' H J H' J' s t _ => t.js _ _ s) rfl rfl (by rw [h2, List.length_map]; exact hl)
      | scr _ => exact f.elim
      | exc0 _ _ => exact f.elim
      | exc1 _ _ _ _ => exact f.elim
      | fnv _ _ => exact f.elim
      | _ => cases hd
    · rw [e] at hd; cases hd
theorem seq_sh {d : PyData} {r1 : Ro} {Q : It → Hp → Prop} {v : V} {H1 J1 : Hp} {fp1 : Nat → List Addr} (w1 : Wf K H1 J1 sg r1 fp1) (q : Sh K J1 v d)
    (f : FinI K W sg H1 J1 fp1 (seqI d [] r1) Q) :
    IsSq K Q v H1 := by
  refine seq_std w1 (.inl q) .nil ?_
  rcases seqI_cases d [] r1 with e | ⟨xs, e⟩
  · rw [e] at f ⊢; exact f
  · rw [e] at f ⊢
    exact fun T S wk s kp e1 e2 hl => f T S H1 J1 fp1 [] w1 wk s kp .nil hl (nil_step Step.refl)
theorem FinI.later {x : R (List PyData × List Lk)} {Q : It → Hp → Prop} {H1 J1 : Hp} {fp1 : Nat → List Addr} (s : Step (Own fp) H J (Own fp1) H1 J1) (h : FinI K W sg H J fp x Q) : FinI K W sg H1 J1 fp1 x Q := by
  cases x with
  | ok a r => exact fun T S H' J' fp' g w wk s1 kp o hl t => h T S H' J' fp' g w wk s1 kp o hl (s.trans t)
  | ex c fs r => exact fun H' J' fp' cls d w q t => h H' J' fp' cls d w q (s.trans t)
  | bad => exact h
theorem FinI.bindD {x : R PyData} {f : PyData → Ro → R (List PyData × List Lk)} {Q : It → Hp → Prop} {T : V → Hp → Prop} (h : FinI K W sg H J fp (x.bind f) Q)
    (k : ∀ d r1 v H1 J1 fp1, x = .ok d r1 → Wf K H1 J1 sg r1 fp1 → Sh K J1 v d → FinI K W sg H1 J1 fp1 (f d r1) Q → T v H1) : Fin K W (RepD K) sg H J fp x T := by
  cases x with
  | ok d r1 =>
    intro v H1 J1 fp1 g w q n t
    obtain ⟨rfl, q⟩ := q
    exact k d r1 v H1 J1 fp1 rfl w q (FinI.later (step_nil t) h)
  | ex c fs r => exact h
  | bad => exact h
theorem tr_ev {c : CE} {Q : Bool → Hp → Prop} (h : tTr K W Phi c sg H Q) : tEv K W Phi c sg H fun v H' => ∃ b, v = .bl b ∧ Q b H' := by
  obtain ⟨J, r, fp, w, f⟩ := h
  refine ⟨J, r, fp, w, ?_⟩
  cases e : ev Phi c r with
  | bad => rw [e] at f; exact f
  | ex c fs r1 => rw [e] at f; exact f
  | ok s r1 =>
    rw [e] at f
    intro v H1 J1 fp1 g w1 q n t
    cases s with
    | non => exact f.elim
    | lst ds => exact f.elim
    | dct _ _ => exact f.elim
    | obj _ _ => exact f.elim
    | rob _ _ => exact f.elim
    | ll _ _ => exact f.elim
    | dd _ => exact f.elim
    | tl _ _ => exact f.elim
    | sh d =>
      obtain ⟨rfl, q⟩ := q
      cases q with
      | bl b => exact ⟨b, rfl, f H1 J1 fp1 w1 (step_nil t)⟩
      | _ => exact f.elim
theorem FinB.later {x : R Bool} {Q : Bool → Hp → Prop} {H1 J1 : Hp} {fp1 : Nat → List Addr} (s : Step (Own fp) H J (Own fp1) H1 J1) (h : FinB K W sg H J fp x Q) : FinB K W sg H1 J1 fp1 x Q := by
  cases x with
  | ok a r => exact fun H' J' fp' w t => h H' J' fp' w (s.trans t)
  | ex c fs r => exact fun H' J' fp' cls d w q t => h H' J' fp' cls d w q (s.trans t)
  | bad => exact h
theorem not_read {a : CE} {Q : Bool → Hp → Prop} (h : tTr K W Phi (.not a) sg H Q) : tNot (tTr K W Phi a) sg H Q := by
  obtain ⟨J, r, fp, w, f⟩ := h
  refine ⟨J, r, fp, w, ?_⟩
  simp only [ev] at f
  cases e : (ev Phi a r).truth with
  | bad => rw [e] at f; exact f
  | ex c fs r1 => rw [e] at f; exact f
  | ok b r1 => rw [e] at f; exact f
theorem and_read {a b : CE} {Q : Bool → Hp → Prop} (h : tTr K W Phi (.and a b) sg H Q) : tAnd (tTr K W Phi a) (tTr K W Phi b) sg H Q := by
  obtain ⟨J, r, fp, w, f⟩ := h
  refine ⟨J, r, fp, w, ?_⟩
  simp only [ev] at f
  cases e : (ev Phi a r).truth with
  | bad => rw [e] at f; exact f
  | ex c fs r1 => rw [e] at f; exact f
  | ok x r1 =>
    rw [e] at f
    intro H1 J1 fp1 w1 t
    have f1 := FinB.later t f
    cases x with
    | true => exact ⟨J1, r1, fp1, w1, f1⟩
    | false => exact f1 H1 J1 fp1 w1 Step.refl
theorem or_read {a b : CE} {Q : Bool → Hp → Prop} (h : tTr K W Phi (.or a b) sg H Q) : tOr (tTr K W Phi a) (tTr K W Phi b) sg H Q := by
  obtain ⟨J, r, fp, w, f⟩ := h
  refine ⟨J, r, fp, w, ?_⟩
  simp only [ev] at f
  cases e : (ev Phi a r).truth with
  | bad => rw [e] at f; exact f
  | ex c fs r1 => rw [e] at f; exact f
  | ok x r1 =>
    rw [e] at f
    intro H1 J1 fp1 w1 t
    have f1 := FinB.later t f
    cases x with
    | false => exact ⟨J1, r1, fp1, w1, f1⟩
    | true => exact f1 H1 J1 fp1 w1 Step.refl
theorem notV_read {a : CE} {Q : V → Hp → Prop} (h : tEv K W Phi (.not a) sg H Q) : tNotV (tEv K W Phi a) sg H Q := by
  obtain ⟨J, r, fp, w, f⟩ := h
  refine tr_ev (Q := fun b H' => Q (.bl (!b)) H') ⟨J, r, fp, w, ?_⟩
  simp only [ev] at f
  cases e : (ev Phi a r).truth with
  | bad => rw [e] at f; exact f
  | ex c fs r1 => rw [e] at f; exact f
  | ok b r1 =>
    rw [e] at f
    exact fun H1 J1 fp1 w1 t => f _ H1 J1 fp1 [] w1 ⟨rfl, .bl _⟩ (fun b z => nomatch z) (nil_step t)
theorem andV_read {a b : CE} {Q : V → Hp → Prop} (h : tEv K W Phi (.and a b) sg H Q) : tAndV (tEv K W Phi a) (tEv K W Phi b) sg H Q := by
  obtain ⟨J, r, fp, w, f⟩ := h
  refine tr_ev (Q := fun b' H' => if b' = true then tEv K W Phi b sg H' Q else Q (.bl false) H') ⟨J, r, fp, w, ?_⟩
  simp only [ev] at f
  cases e : (ev Phi a r).truth with
  | bad => rw [e] at f; exact f
  | ex c fs r1 => rw [e] at f; exact f
  | ok x r1 =>
    rw [e] at f
    intro H1 J1 fp1 w1 t
    have f1 := Fin.later t f
    cases x with
    | true => exact ⟨J1, r1, fp1, w1, f1⟩
    | false => exact f1 _ H1 J1 fp1 [] w1 ⟨rfl, .bl _⟩ (fun b z => nomatch z) (nil_step Step.refl)
theorem orV_read {a b : CE} {Q : V → Hp → Prop} (h : tEv K W Phi (.or a b) sg H Q) : tOrV (tEv K W Phi a) (tEv K W Phi b) sg H Q := by
  obtain ⟨J, r, fp, w, f⟩ := h
  refine tr_ev (Q := fun b' H' => if b' = true then Q (.bl true) H' else tEv K W Phi b sg H' Q) ⟨J, r, fp, w, ?_⟩
  simp only [ev] at f
  cases e : (ev Phi a r).truth with
  | bad => rw [e] at f; exact f
  | ex c fs r1 => rw [e] at f; exact f
  | ok x r1 =>
    rw [e] at f
    intro H1 J1 fp1 w1 t
    have f1 := Fin.later t f
    cases x with
    | false => exact ⟨J1, r1, fp1, w1, f1⟩
    | true => exact f1 _ H1 J1 fp1 [] w1 ⟨rfl, .bl _⟩ (fun b z => nomatch z) (nil_step Step.refl)
theorem chain_read {o p : Op} {a b c : CE} {Q : V → Hp → Prop} (h : tEv K W Phi (.chain o p a b c) sg H Q) :
    tChain (rPrim2 K o) (rPrim2 K p) (tSh K W Phi a) (tSh K W Phi b) (tSh K W Phi c) sg H Q := by
  obtain ⟨J, r, fp, w, f⟩ := h
  simp only [ev] at f
  refine ⟨J, r, fp, w, Fin.bindD f fun x r1 vx H1 J1 fp1 _ w1 qx t1 f1 => ⟨J1, r1, fp1, w1, Fin.bindD f1 fun y r2 vy H2 J2 fp2 _ w2 qy t2 f2 => ?_⟩⟩
  have vws : Vws K H2 J2 [vx, vy] [x, y] := .cons (.inl (shMono t2.js qx)) (.cons (.inl qy) .nil)
  cases ep : prim o [x, y] with
  | none => rw [ep] at f2; exact f2.elim
  | some s =>
    rw [ep] at f2
    refine ⟨J2, [x, y], s, w2.same, vws, ep, fun v H3 J3 g q n st sm => ?_⟩
    cases s with
    | non => exact f2.elim
    | lst ds => exact f2.elim
    | dct _ _ => exact f2.elim
    | obj _ _ => exact f2.elim
    | rob _ _ => exact f2.elim
    | ll _ _ => exact f2.elim
    | dd _ => exact f2.elim
    | tl _ _ => exact f2.elim
    | sh d =>
      obtain ⟨rfl, q⟩ := q
      have w3 : Wf K H3 J3 sg r2 fp2 := w2.step st sm fun _ _ z => z
      have t3 : Step (Own fp2) H2 J2 (Own fp2) H3 J3 := ⟨st.js, fun b o q _ => st.fr b o q id, fun b q => .inl q, fun b q => (st.jg b q).imp id fun z => z.imp False.elim id⟩
      cases q with
      | bl k =>
        refine ⟨k, rfl, ?_⟩
        cases k with
        | false =>
          rw [if_neg Bool.false_ne_true]
          exact (Fin.later t3 f2) _ H3 J3 fp2 [] w3 ⟨rfl, .bl _⟩ (fun b z => nomatch z) (nil_step Step.refl)
        | true =>
          rw [if_pos rfl]
          have f3 := Fin.later t3 f2
          refine ⟨J3, r2, fp2, w3, Fin.bindD f3 fun z r4 vz H4 J4 fp4 _ w4 qz t4 f4 => ?_⟩
          cases ep2 : prim p [y, z] with
          | none => rw [ep2] at f4; exact f4.elim
          | some s =>
            rw [ep2] at f4
            refine ⟨J4, [y, z], s, w4.same, .cons (.inl (shMono (st.js.trans t4.js) qy)) (.cons (.inl qz) .nil), ep2, fun v H5 J5 g q n st sm => ?_⟩
            refine f4 v H5 J5 fp4 g (w4.step st sm fun _ _ z => z) q (fun b z => ⟨(n b z).1, fun ⟨j, y⟩ => ?_⟩) ⟨st.js, fun b o q _ => st.fr b o q id, fun b q => ?_, fun b q => (st.jg b q).imp id fun z => z.imp False.elim id⟩
            · obtain ⟨_, o, ho, _⟩ := w4.jn j b y
              rw [(n b z).2] at ho; cases ho
            · rcases q with q | q
              · exact .inl q
              · exact (st.fn b q).imp False.elim id
      | _ => exact f2.elim
end
end Ev
end

section
set_option Elab.async false
set_option linter.all false
set_option maxRecDepth 100000
set_option maxHeartbeats 4000000
namespace Ev
open PySem PySem.Spec PyProof.Rows L2 RZ
abbrev mZ1 (h : Heap) (a : Addr) : Heap := h.push { cls := .type "tuple_iterator", data := .fields #[.ref a, .int 0 0] }
abbrev mZ2 (h : Heap) (a b : Addr) : Heap := (mZ1 h a).push { cls := .type "list_iterator", data := .fields #[.ref b, .int 0 0] }
abbrev mZ3 (h : Heap) (a b : Addr) : Heap := (mZ2 h a b).push { cls := .type "tuple", data := .seq #[.ref h.objs.size, .ref (mZ1 h a).objs.size] }
abbrev mZ4 (h : Heap) (a b : Addr) : Heap := (mZ3 h a b).push { cls := .type "tuple", data := .seq #[.none, .none] }
abbrev mZ5 (h : Heap) (a b : Addr) : Heap := (mZ4 h a b).push { cls := .type "zip", data := .fields #[.none, .bool false, .bool false, .ref (mZ2 h a b).objs.size, .ref (mZ3 h a b).objs.size] }
theorem meets_zipM (a b : Addr) (xs ys : Array Value) :
    Meets (Builtin.«zip.__new__» ⟨[.type "zip", .ref a, .ref b], []⟩) (fun _ R s => s.heap.IsTuple a xs ∧ s.heap.IsList b ys ∧ R (.ok (.ret (.ref (mZ4 s.heap a b).objs.size))) { s with heap := mZ5 s.heap a b }) :=
  .of_wp fun prog w A R s h => by
    obtain ⟨hp, g, d, tk, os⟩ := s
    obtain ⟨ha, hb, h⟩ := h
    have hsub := sub_zip
    have hA : Heap.IsTuple (Shared.heap ⟨hp, g, d, tk, os⟩) a xs := ha
    have hB : Heap.IsList (Shared.heap ⟨hp.push { cls := .type "tuple_iterator", data := .fields #[.ref a, .int 0 0] }, g, d, tk, os⟩) b ys := Heap.IsList.push hb _
    wp_walk using wpAny_pyIter_tuple hA, wpAny_pyIter_list hB
    exact ⟨_, rfl, h⟩
section
variable {prog : Program} {w : World} {A : Around} {E : Value → Shared → Prop} {s : Shared}
theorem call_zipM {a b : Addr} {xs ys : Array Value} {Q : Value → Shared → Prop} (ha : s.heap.IsTuple a xs) (hb : s.heap.IsList b ys)
    (h : ∀ h', IsZip h' (s.heap.objs.size + 4) (s.heap.objs.size + 2) (s.heap.objs.size + 3) .none → PySem.IsPair h' (s.heap.objs.size + 2) (.ref s.heap.objs.size) (.ref (s.heap.objs.size + 1)) →
      PySem.IsPair h' (s.heap.objs.size + 3) .none .none → h'.IsTupleIter s.heap.objs.size a 0 → h'.IsListIter (s.heap.objs.size + 1) b 0 →
      (∀ c o, s.heap.get? c = some o → h'.get? c = some o) → Q (.ref (s.heap.objs.size + 4)) { s with heap := h' }) :
    wpAny (model prog w) A (call (.type "zip") [.ref a, .ref b]) Q E s := by
  refine callType_new F.called_zip (by decide) (F.typeCall_zip_2 _ _) (F.newCall_zip_2 _ _) (fun obj => F.args_object_init_3 obj _ _) F.entry_zip_new (meets_zipM a b xs ys) ⟨ha, hb, ?_⟩
  have z1 : (mZ1 s.heap a).objs.size = s.heap.objs.size + 1 := Heap.size_push ..
  have z2 : (mZ2 s.heap a b).objs.size = s.heap.objs.size + 2 := by rw [Heap.size_push, z1]
  have z3 : (mZ3 s.heap a b).objs.size = s.heap.objs.size + 3 := by rw [Heap.size_push, z2]
  have z4 : (mZ4 s.heap a b).objs.size = s.heap.objs.size + 4 := by rw [Heap.size_push, z3]
  have up : ∀ {x : Obj} {c : Addr} {o : Obj} {hh : Heap}, hh.get? c = some o → (hh.push x).get? c = some o := fun e => Heap.get?_push_of_some _ e
  have g5 : (mZ5 s.heap a b).get? (mZ4 s.heap a b).objs.size = some _ := Heap.get?_push_size _ rfl
  have g4 : (mZ5 s.heap a b).get? (mZ3 s.heap a b).objs.size = some _ := up (Heap.get?_push_size _ rfl)
  have g3 : (mZ5 s.heap a b).get? (mZ2 s.heap a b).objs.size = some _ := up (up (Heap.get?_push_size _ rfl))
  have g2 : (mZ5 s.heap a b).get? (mZ1 s.heap a).objs.size = some _ := up (up (up (Heap.get?_push_size _ rfl)))
  have g1 : (mZ5 s.heap a b).get? s.heap.objs.size = some _ := up (up (up (up (Heap.get?_push_size _ rfl))))
  show _ ∧ _
  rw [z2, z3, z4] at g5
  rw [z1, z2] at g3
  rw [z3] at g4
  rw [z1] at g2
  rw [z4]
  exact ⟨⟨_, g5, rfl⟩, h _ g5 g3 g4 ⟨_, g1, rfl, rfl⟩ ⟨_, g2, rfl, rfl⟩ fun c o x => up (up (up (up (up x))))⟩
end
def ItzM (K : PySem.W.Frag) (a b : Addr) : It :=
  ⟨fun i H => ∃ (xs ys : List V) (x y : V), SqT K H a xs ∧ SqL K H b ys ∧ xs[i]? = some x ∧ ys[i]? = some y,
    fun i H v H' => ∃ T x y, v = .ref T ∧ H T = none ∧ H' = upd H T (.tup [x, y]) ∧ (∀ xs, SqT K H a xs → xs[i]? = some x) ∧ ∀ ys, SqL K H b ys → ys[i]? = some y,
    fun i H => ∃ xs ys : List V, SqT K H a xs ∧ SqL K H b ys ∧ ((xs.length = i ∧ i ≤ ys.length) ∨ (ys.length = i ∧ i ≤ xs.length))⟩
theorem sep_of {z TI TO i1 i2 a b : Addr} (D : ZipApart z TI TO i1 i2 a b) : ZipSep2 z TI TO i1 i2 [i1, a] [i2, b] where
  TIz := D.TIz
  TOz := D.TOz
  TITO := D.TITO
  TIi1 := D.TIi1
  mem1 := by simp
  zf1 := by simp only [List.mem_cons, List.not_mem_nil, or_false, not_or]; exact ⟨fun e => D.i1z e.symm, fun e => D.l1z e.symm⟩
  Tf1 := by simp only [List.mem_cons, List.not_mem_nil, or_false, not_or]; exact ⟨D.TOi1, fun e => D.l1TO e.symm⟩
  TIi2 := D.TIi2
  mem2 := by simp
  zf2 := by simp only [List.mem_cons, List.not_mem_nil, or_false, not_or]; exact ⟨fun e => D.i2z e.symm, fun e => D.l2z e.symm⟩
  Tf2 := by simp only [List.mem_cons, List.not_mem_nil, or_false, not_or]; exact ⟨D.TOi2, fun e => D.l2TO e.symm⟩
  sep1_2 := by simp only [List.mem_cons, List.not_mem_nil, or_false, not_or]; exact ⟨D.i12, fun e => D.l2i1 e.symm⟩
  sep2_1 := by simp only [List.mem_cons, List.not_mem_nil, or_false, not_or]; exact ⟨fun e => D.i12 e.symm, fun e => D.l1i2 e.symm⟩
theorem turn_zipM {P : Program} {w : World} {K : PySem.W.Frag} {elts : List Expr} {kk : Nat} {tpos : Pos} {a b z TI TO i1 i2 : Addr} (D : ZipApart z TI TO i1 i2 a b) :
    Turn P w K (.Tuple elts kk tpos) (ItzM K a b) [z, TI, TO, i1, i2] z (fun i h => IsZip h z TI TO .none ∧ PySem.IsPair h TI (.ref i1) (.ref i2) ∧ (∃ x y, PySem.IsPair h TO x y) ∧ h.IsTupleIter i1 a i ∧ h.IsListIter i2 b i) where
  mem := by simp
  obj := fun i h st c hc => by
    obtain ⟨hz, hTI, ⟨x, y, hTO⟩, ⟨o1, e1, _, d1⟩, ⟨o2, e2, _, d2⟩⟩ := st
    have e' : c = z ∨ c = TI ∨ c = TO ∨ c = i1 ∨ c = i2 := by simpa using hc
    rcases e' with q | q | q | q | q
    · rw [q]; exact ⟨_, hz, fun v q => nomatch q⟩
    · rw [q]; exact ⟨_, hTI, fun v q => nomatch q⟩
    · rw [q]; exact ⟨_, hTO, fun v q => nomatch q⟩
    · rw [q]; exact ⟨o1, e1, fun v q => by rw [d1] at q; cases q⟩
    · rw [q]; exact ⟨o2, e2, fun v q => by rw [d2] at q; cases q⟩
  keep := fun i h h' st k => by
    obtain ⟨hz, hTI, ⟨x, y, hTO⟩, h1, h2⟩ := st
    exact ⟨k z (by simp) _ hz, k TI (by simp) _ hTI, ⟨x, y, k TO (by simp) _ hTO⟩, h1.at fun o q => k i1 (by simp) o q, h2.at fun o q => k i2 (by simp) o q⟩
  item := by
    intro X hP hw hK hc i pins s σ H E I hf st hg
    subst hP hw hK
    obtain ⟨hz, hTI, ⟨x0, y0, hTO⟩, h1, h2⟩ := st
    obtain ⟨xs, ys, x, y, hqx, hqy, hx, hy⟩ := hg
    obtain ⟨its, rv, p, _⟩ := I.tuple hqx
    obtain ⟨its2, rv2, p2, _⟩ := I.list hqy
    obtain ⟨u, hu, ru⟩ := rv.get hx
    obtain ⟨u2, hu2, ru2⟩ := rv2.get hy
    have hzl : z < s.heap.objs.size := Heap.lt_size hz
    have hcalm := I.ok.hd hc
    have li1 : i < its.toArray.size := by rw [List.size_toArray]; exact (List.getElem?_eq_some_iff.mp hu).1
    have li2 : i < its2.toArray.size := by rw [List.size_toArray]; exact (List.getElem?_eq_some_iff.mp hu2).1
    refine wpAny_pyNext_zipD2_item (sep_of D) (Draws.tuple (by simp [hcalm]) i1 a D.l1i1 its.toArray) (Draws.list (by simp [hcalm]) i2 b D.l2i2 its2.toArray) hz hTI hTO ⟨h1, p⟩ ⟨h2, p2.isList⟩ li1 li2
      fun v1 v2 h' tk e1 e2 z' TO' h1' h2' hT hsz hk => ?_
    have ev1 : v1 = u := by
      have : its.toArray[i]? = some u := by simpa using hu
      rw [this] at e1; exact (Option.some.inj e1).symm
    have ev2 : v2 = u2 := by
      have : its2.toArray[i]? = some u2 := by simpa using hu2
      rw [this] at e2; exact (Option.some.inj e2).symm
    subst ev1 ev2
    refine ⟨_, rfl, wpAny_letOwnedTupleGo_zip (s := { s with heap := h', toks := tk }) z' fun h'' z'' sb => ?_⟩
    have hT2 : h''.get? s.heap.objs.size = some { cls := .type "tuple", data := .seq #[v1, v2] } := (sb.2 _ (Nat.ne_of_gt hzl)).trans hT
    have new : ObjOk X.prog X.w (upd H s.heap.objs.size (.tup [x, y])) h'' s.heap.objs.size (.tup [x, y]) :=
      ⟨by show 2 ≤ sizeLine; decide, [v1, v2], .cons ru (.cons ru2 .nil), ⟨_, hT2, rfl, _, rfl⟩⟩
    have I1 : Inv X pins σ (upd H s.heap.objs.size (.tup [x, y])) { s with heap := h'', toks := tk } :=
      I.turnedNew (t' := tk) (ch := [z, TI, TO, i1, i2]) (fun c o hb q => (sb.2 c (fun q' => hb (by simp [q']))).trans (hk c o (fun q' => hb (by simp [q'])) (fun q' => hb (by simp [q'])) (fun q' => hb (by simp [q'])) (fun q' => hb (by simp [q'])) q)) hf (Nat.le_refl _) new
    refine ⟨.ref s.heap.objs.size, _, I1, rfl, ⟨_, x, y, rfl, I.hok.fresh (Nat.le_refl _), rfl, fun l hl => by rw [I.tuple_inj hl hqx]; exact hx, fun l hl => by rw [I.list_inj hl hqy]; exact hy⟩, ⟨z'', ?_, ⟨v1, v2, ?_⟩, ?_, ?_⟩, fun c hcm => ?_⟩
    · exact (sb.2 _ D.TIz).trans (hk _ _ D.TIz D.TITO D.TIi1 D.TIi2 hTI)
    · exact (sb.2 _ D.TOz).trans TO'
    · exact h1'.1.at fun o q => (sb.2 _ D.i1z).trans q
    · exact h2'.1.at fun o q => (sb.2 _ D.i2z).trans q
    · have hlt : c < s.heap.objs.size := by
        have e' : c = z ∨ c = TI ∨ c = TO ∨ c = i1 ∨ c = i2 := by simpa using hcm
        rcases e' with q | q | q | q | q
        · rw [q]; exact hzl
        · rw [q]; exact Heap.lt_size hTI
        · rw [q]; exact Heap.lt_size hTO
        · rw [q]; obtain ⟨_, e1, _⟩ := h1; exact Heap.lt_size e1
        · rw [q]; obtain ⟨_, e2, _⟩ := h2; exact Heap.lt_size e2
      rw [upd_ne (Nat.ne_of_lt hlt)]
      exact (hf c hcm).1
  done := by
    intro X hP hw hK hc i pins s σ H E I hf st hg
    subst hP hw hK
    obtain ⟨hz, hTI, ⟨x0, y0, hTO⟩, h1, h2⟩ := st
    obtain ⟨xs, ys, hqx, hqy, hend⟩ := hg
    obtain ⟨its, rv, p, _⟩ := I.tuple hqx
    obtain ⟨its2, rv2, p2, _⟩ := I.list hqy
    have l1 := rv.length
    have l2 := rv2.length
    have hcalm := I.ok.hd hc
    have s1 : its.toArray.size = its.length := List.size_toArray
    have s2 : its2.toArray.size = its2.length := List.size_toArray
    refine wpAny_pyNext_zipD2_end (sep_of D) (Draws.tuple (by simp [hcalm]) i1 a D.l1i1 its.toArray) (Draws.list (by simp [hcalm]) i2 b D.l2i2 its2.toArray) hz hTI hTO ⟨h1, p⟩ ⟨h2, p2.isList⟩ (by rw [s1]; omega) (by rw [s2]; omega) (by rw [s1, s2]; omega)
      fun h' tk hk => ⟨rfl, I.turnedL (t' := tk) (ch := [z, TI, TO, i1, i2]) (fun c o hb q => hk c o (fun q' => hb (by simp [q'])) (fun q' => hb (by simp [q'])) (fun q' => hb (by simp [q'])) (fun q' => hb (by simp [q'])) q) hf⟩
  self := fun A i s Q E st h => wpAny_pyIter_zip st.1 h
def iZipB (K : PySem.W.Frag) (ta : TA) : TI := fun σ H R => ta σ H fun vs H1 => ∃ a b xs ys, vs = [.ref a, .ref b] ∧ ((SqL K H1 a xs ∧ SqL K H1 b ys ∧ R (Itz K a b) H1) ∨ (SqT K H1 a xs ∧ SqT K H1 b ys ∧ R (ItzT K a b) H1) ∨ (SqT K H1 a xs ∧ SqL K H1 b ys ∧ R (ItzM K a b) H1))
theorem pi_zipB {X : Cx} {e e2 : Expr} {ta : TA} {p pos tpos : Pos} {elts : List Expr} {kk : Nat} (hg : Gl X "zip") (hm : X.mg "zip" = none) (ha : PA X [e, e2] ta)
    (hs : starEach [e, e2] X.env = (false, eval e X.env) :: starEach [e2] X.env := by rfl) (hpl : (backTo pos (starEach [e2] X.env)).any (·.1) = false := by rfl) :
    PI X (.Tuple elts kk tpos) (.Call (.Name "zip" p) [e, e2] [] pos) (iZipB X.K ta) := by
  refine ⟨fun pins s σ H R I h => ?_⟩
  refine Call_ (ld_blt I hg hm PyProof.Rows.boot_zip (PyProof.Rows.callWith_type1 (thn (ha.run pos pins s σ H _ I h) fun us s1 ⟨vs, H1, I1, r1, q1⟩ => ?_) hs hpl))
  obtain ⟨a, b, xs, ys, ex, q1⟩ := q1
  subst ex
  cases r1 with
  | cons r rr =>
    cases rr with
    | cons r' rr =>
      cases rr
      cases r
      cases r'
      have fresh5 : ∀ c, c ∈ [s1.heap.objs.size + 4, s1.heap.objs.size + 2, s1.heap.objs.size + 3, s1.heap.objs.size, s1.heap.objs.size + 1] → FpOk X pins H1 c := fun c hcm => by
        have e' : c = s1.heap.objs.size + 4 ∨ c = s1.heap.objs.size + 2 ∨ c = s1.heap.objs.size + 3 ∨ c = s1.heap.objs.size ∨ c = s1.heap.objs.size + 1 := by simpa using hcm
        have hle : s1.heap.objs.size ≤ c := by
          rcases e' with z | z | z | z | z
          · rw [z]; exact Nat.le_add_right _ _
          · rw [z]; exact Nat.le_add_right _ _
          · rw [z]; exact Nat.le_add_right _ _
          · rw [z]; exact Nat.le_refl _
          · rw [z]; exact Nat.le_add_right _ _
        exact I1.fpOk hle (I1.hok.fresh hle)
      rcases q1 with ⟨hqx, hqy, q⟩ | ⟨hqx, hqy, q⟩ | ⟨hqx, hqy, q⟩
      · obtain ⟨its, rv, p1, _⟩ := I1.list hqx
        obtain ⟨its2, rv2, p2, _⟩ := I1.list hqy
        refine call_zip_2 p1.isList p2.isList fun h' hz hTI hTO h1 h2 hsz hk => wpAny_pyIter_zip hz ?_
        have I2 : Inv X pins σ H1 { s1 with heap := h' } := I1.kept (t' := s1.toks) hk
        exact ⟨s1.heap.objs.size + 4, [s1.heap.objs.size + 4, s1.heap.objs.size + 2, s1.heap.objs.size + 3, s1.heap.objs.size, s1.heap.objs.size + 1], _, _, H1, rfl, I2, turn_zip (PySem.W.ktu_apart s1.heap.objs.size a b p1.lt p2.lt), ⟨hz, hTI, ⟨_, _, hTO⟩, h1, h2⟩, fresh5, q⟩
      · obtain ⟨its, rv, p1, _⟩ := I1.tuple hqx
        obtain ⟨its2, rv2, p2, _⟩ := I1.tuple hqy
        obtain ⟨o1, ho1, _⟩ := id p1
        obtain ⟨o2, ho2, _⟩ := id p2
        refine call_zipT (show s1.heap.IsTuple a its.toArray from p1) (show s1.heap.IsTuple b its2.toArray from p2) fun h' hz hTI hTO h1 h2 hsz hk => wpAny_pyIter_zip hz ?_
        have I2 : Inv X pins σ H1 { s1 with heap := h' } := I1.kept (t' := s1.toks) hk
        exact ⟨s1.heap.objs.size + 4, [s1.heap.objs.size + 4, s1.heap.objs.size + 2, s1.heap.objs.size + 3, s1.heap.objs.size, s1.heap.objs.size + 1], _, _, H1, rfl, I2, turn_zipT (PySem.W.ktu_apart s1.heap.objs.size a b (Heap.lt_size ho1) (Heap.lt_size ho2)), ⟨hz, hTI, ⟨_, _, hTO⟩, h1, h2⟩, fresh5, q⟩
      · obtain ⟨its, rv, p1, _⟩ := I1.tuple hqx
        obtain ⟨its2, rv2, p2, _⟩ := I1.list hqy
        obtain ⟨o1, ho1, _⟩ := id p1
        refine call_zipM (show s1.heap.IsTuple a its.toArray from p1) p2.isList fun h' hz hTI hTO h1 h2 hk => wpAny_pyIter_zip hz ?_
        have I2 : Inv X pins σ H1 { s1 with heap := h' } := I1.kept (t' := s1.toks) hk
        exact ⟨s1.heap.objs.size + 4, [s1.heap.objs.size + 4, s1.heap.objs.size + 2, s1.heap.objs.size + 3, s1.heap.objs.size, s1.heap.objs.size + 1], _, _, H1, rfl, I2, turn_zipM (PySem.W.ktu_apart s1.heap.objs.size a b (Heap.lt_size ho1) p2.lt), ⟨hz, hTI, ⟨_, _, hTO⟩, h1, h2⟩, fresh5, q⟩
end Ev
end

section
set_option Elab.async false
set_option linter.all false
set_option maxRecDepth 100000
set_option maxHeartbeats 4000000
namespace Ev
open PySem L2
variable [Errs]
section
variable {K : PySem.W.Frag} {W : WX} {sg : St} {H J : Hp} {fp : Nat → List Addr} {Phi : Nat → Ro → FR}
theorem zipW_get {f : PyData → PyData → PyData} {as bs : List PyData} {i : Nat} {x y : PyData} (h1 : as[i]? = some x) (h2 : bs[i]? = some y) : (List.zipWith f as bs)[i]? = some (f x y) := by
  rw [List.getElem?_zipWith, h1, h2]
theorem walks_zipL {a b : Addr} {as bs : List PyData} {S : Hp → Hp → Prop} (hS : ∀ H J, Same J H → S H J → ∃ xs ys, SqL K H a xs ∧ SqL K H b ys ∧ ShAll K J xs as ∧ ShAll K J ys bs)
    (hK : ∀ H J T o, Same J H → S H J → H T = none → S (upd H T o) (upd J T o)) : Walks K (Itz K a b) (List.zipWith (fun x y => .tuple [x, y]) as bs) S where
  go := fun i H J sm s h => by
    obtain ⟨xs, ys, h1, h2, h3, h4⟩ := hS H J sm s
    rw [List.length_zipWith] at h
    have hx : i < xs.length := by rw [shsLen h3]; omega
    have hy : i < ys.length := by rw [shsLen h4]; omega
    exact ⟨xs, ys, xs[i], ys[i], h1, h2, by simp [hx], by simp [hy]⟩
  stop := fun i H J sm s h _ => by
    obtain ⟨xs, ys, h1, h2, h3, h4⟩ := hS H J sm s
    rw [List.length_zipWith] at h
    refine ⟨xs, ys, h1, h2, ?_⟩
    rw [shsLen h3, shsLen h4]
    omega
  yld := fun i H J v H' sm s h y => by
    obtain ⟨T, x, y, rfl, hT, rfl, hx, hy⟩ := y
    obtain ⟨xs, ys, h1, h2, h3, h4⟩ := hS H J sm s
    obtain ⟨dx, e1, q1⟩ := shsGetV h3 (hx xs h1)
    obtain ⟨dy, e2, q2⟩ := shsGetV h4 (hy ys h2)
    have st : Step (fun _ => False) H J (fun _ => False) (upd H T (.tup [x, y])) (upd J T (.tup [x, y])) := step_new sm hT
    exact ⟨upd J T (.tup [x, y]), .tuple [dx, dy], zipW_get e1 e2, .tup upd_same (.cons (shMono st.js q1) (.cons (shMono st.js q2) .nil)), same_upd2 sm, hK H J T _ sm s hT, st⟩
theorem walks_zipT {a b : Addr} {as bs : List PyData} {S : Hp → Hp → Prop} (hS : ∀ H J, Same J H → S H J → ∃ xs ys, SqT K H a xs ∧ SqT K H b ys ∧ ShAll K J xs as ∧ ShAll K J ys bs)
    (hK : ∀ H J T o, Same J H → S H J → H T = none → S (upd H T o) (upd J T o)) : Walks K (RZ.ItzT K a b) (List.zipWith (fun x y => .tuple [x, y]) as bs) S where
  go := fun i H J sm s h => by
    obtain ⟨xs, ys, h1, h2, h3, h4⟩ := hS H J sm s
    rw [List.length_zipWith] at h
    have hx : i < xs.length := by rw [shsLen h3]; omega
    have hy : i < ys.length := by rw [shsLen h4]; omega
    exact ⟨xs, ys, xs[i], ys[i], h1, h2, by simp [hx], by simp [hy]⟩
  stop := fun i H J sm s h _ => by
    obtain ⟨xs, ys, h1, h2, h3, h4⟩ := hS H J sm s
    rw [List.length_zipWith] at h
    refine ⟨xs, ys, h1, h2, ?_⟩
    rw [shsLen h3, shsLen h4]
    omega
  yld := fun i H J v H' sm s h y => by
    obtain ⟨T, x, y, rfl, hT, rfl, hx, hy⟩ := y
    obtain ⟨xs, ys, h1, h2, h3, h4⟩ := hS H J sm s
    obtain ⟨dx, e1, q1⟩ := shsGetV h3 (hx xs h1)
    obtain ⟨dy, e2, q2⟩ := shsGetV h4 (hy ys h2)
    have st : Step (fun _ => False) H J (fun _ => False) (upd H T (.tup [x, y])) (upd J T (.tup [x, y])) := step_new sm hT
    exact ⟨upd J T (.tup [x, y]), .tuple [dx, dy], zipW_get e1 e2, .tup upd_same (.cons (shMono st.js q1) (.cons (shMono st.js q2) .nil)), same_upd2 sm, hK H J T _ sm s hT, st⟩
theorem walks_zipM {a b : Addr} {as bs : List PyData} {S : Hp → Hp → Prop} (hS : ∀ H J, Same J H → S H J → ∃ xs ys, SqT K H a xs ∧ SqL K H b ys ∧ ShAll K J xs as ∧ ShAll K J ys bs)
    (hK : ∀ H J T o, Same J H → S H J → H T = none → S (upd H T o) (upd J T o)) : Walks K (ItzM K a b) (List.zipWith (fun x y => .tuple [x, y]) as bs) S where
  go := fun i H J sm s h => by
    obtain ⟨xs, ys, h1, h2, h3, h4⟩ := hS H J sm s
    rw [List.length_zipWith] at h
    have hx : i < xs.length := by rw [shsLen h3]; omega
    have hy : i < ys.length := by rw [shsLen h4]; omega
    exact ⟨xs, ys, xs[i], ys[i], h1, h2, by simp [hx], by simp [hy]⟩
  stop := fun i H J sm s h h' => by
    obtain ⟨xs, ys, h1, h2, h3, h4⟩ := hS H J sm s
    rw [List.length_zipWith] at h h'
    refine ⟨xs, ys, h1, h2, ?_⟩
    rw [shsLen h3, shsLen h4]
    omega
  yld := fun i H J v H' sm s h y => by
    obtain ⟨T, x, y, rfl, hT, rfl, hx, hy⟩ := y
    obtain ⟨xs, ys, h1, h2, h3, h4⟩ := hS H J sm s
    obtain ⟨dx, e1, q1⟩ := shsGetV h3 (hx xs h1)
    obtain ⟨dy, e2, q2⟩ := shsGetV h4 (hy ys h2)
    have st : Step (fun _ => False) H J (fun _ => False) (upd H T (.tup [x, y])) (upd J T (.tup [x, y])) := step_new sm hT
    exact ⟨upd J T (.tup [x, y]), .tuple [dx, dy], zipW_get e1 e2, .tup upd_same (.cons (shMono st.js q1) (.cons (shMono st.js q2) .nil)), same_upd2 sm, hK H J T _ sm s hT, st⟩
theorem enumL_len : ∀ (ds : List PyData) (k : Nat), (enumL k ds).length = ds.length
  | [], _ => rfl
  | d :: ds, k => by simp [enumL, enumL_len ds]
theorem enumL_get : ∀ {ds : List PyData} {i k : Nat} {d : PyData}, ds[i]? = some d → (enumL k ds)[i]? = some (.tuple [.int ((k + i : Nat) : Int), d])
  | d :: ds, 0, k, e, h => by simp at h; subst h; rfl
  | d :: ds, i + 1, k, e, h => by
    have := enumL_get (k := k + 1) (i := i) (show ds[i]? = some e by simpa using h)
    rw [show k + 1 + i = k + (i + 1) by omega] at this
    exact this
theorem walks_enum {a : Addr} {as : List PyData} {S : Hp → Hp → Prop} (hS : ∀ H J, Same J H → S H J → ∃ xs, SqL K H a xs ∧ ShAll K J xs as)
    (hK : ∀ H J T o, Same J H → S H J → H T = none → S (upd H T o) (upd J T o)) : Walks K (Ite K a) (enumL 0 as) S where
  go := fun i H J sm s h => by
    obtain ⟨xs, h1, h3⟩ := hS H J sm s
    rw [enumL_len] at h
    have hx : i < xs.length := by rw [shsLen h3]; omega
    exact ⟨xs, xs[i], h1, by simp [hx]⟩
  stop := fun i H J sm s h _ => by
    obtain ⟨xs, h1, h3⟩ := hS H J sm s
    rw [enumL_len] at h
    exact ⟨xs, h1, by rw [shsLen h3]; omega⟩
  yld := fun i H J v H' sm s h y => by
    obtain ⟨T, x, rfl, hT, rfl, hx⟩ := y
    obtain ⟨xs, h1, h3⟩ := hS H J sm s
    obtain ⟨dx, e1, q1⟩ := shsGetV h3 (hx xs h1)
    have st : Step (fun _ => False) H J (fun _ => False) (upd H T (.tup [.int (i : Nat), x])) (upd J T (.tup [.int (i : Nat), x])) := step_new sm hT
    have e2 := enumL_get (k := 0) e1
    rw [Nat.zero_add] at e2
    exact ⟨upd J T (.tup [.int (i : Nat), x]), .tuple [.int (i : Int), dx], e2, .tup upd_same (.cons (.int _) (.cons (shMono st.js q1) .nil)), same_upd2 sm, hK H J T _ sm s hT, st⟩
theorem prsI_some {z : Bool} {xs l : List PyData} (h : prsI z xs = some l) : (∃ a b, z = true ∧ xs = [.list a, .list b] ∧ a.length ≤ 16777216 ∧ l = List.zipWith (fun x y => .tuple [x, y]) a b) ∨ (∃ a b, z = true ∧ xs = [.tuple a, .tuple b] ∧ a.length ≤ 16777216 ∧ l = List.zipWith (fun x y => .tuple [x, y]) a b) ∨
    (∃ a b, z = true ∧ xs = [.tuple a, .list b] ∧ a.length ≤ 16777216 ∧ l = List.zipWith (fun x y => .tuple [x, y]) a b) ∨ (∃ a, z = false ∧ xs = [.list a] ∧ a.length ≤ 16777216 ∧ l = enumL 0 a) := by
  unfold prsI at h
  split at h
  · split at h
    · cases h; exact .inl ⟨_, _, rfl, rfl, of_decide_eq_true (by assumption), rfl⟩
    · cases h
  · split at h
    · cases h; exact .inr (.inl ⟨_, _, rfl, rfl, of_decide_eq_true (by assumption), rfl⟩)
    · cases h
  · split at h
    · cases h; exact .inr (.inr (.inl ⟨_, _, rfl, rfl, of_decide_eq_true (by assumption), rfl⟩))
    · cases h
  · split at h
    · cases h; exact .inr (.inr (.inr ⟨_, rfl, rfl, of_decide_eq_true (by assumption), rfl⟩))
    · cases h
  · cases h
theorem lock_reads {es : CEs} {sel : List PyData → Option (List PyData)} {J : Hp} {r : Ro} {fp : Nat → List Addr} {Q : It → Hp → Prop} {RR : List V → Hp → Prop} (w : Wf K H J sg r fp)
    (f : FinI K W sg H J fp ((rds Phi es r).bind fun x r1 => match lks x r1 with
      | some (ds, ls, r2) => (match sel ds with
        | some l => R.ok (l, ls) r2
        | none => .bad)
      | none => .bad) Q)
    (hR : ∀ vs ds H1 J1 g l, Same J1 H1 → Stds K g H1 J1 vs ds → sel ds = some l → (∀ T S, Walks K T l S → S H1 J1 → Keeps g S → l.length ≤ sizeLine → Q T H1) → RR vs H1) : seqOpd K W (rd1 Phi) es sg H RR := by
  refine seqOpd_of es w ?_
  rw [rds_many] at f
  cases e : many (rd1 Phi) es r with
  | bad => rw [e] at f; exact f
  | ex c fs r1 => rw [e] at f; exact f
  | ok x r1 =>
    rw [e] at f
    simp only [R.ok_bind] at f
    intro vs H1 J1 fp1 gs w1 o1 t1
    obtain rfl := o1.plain (rd1_plain e)
    cases el : lks x r1 with
    | none => rw [el] at f; exact f.elim
    | some p =>
      obtain ⟨ds, ls, r2⟩ := p
      rw [el] at f
      simp only at f
      obtain ⟨fp2, g, w2, lk, st, ow⟩ := lks_ok w1 o1 (rd1_plain e) el
      cases es : sel ds with
      | none => rw [es] at f; exact f.elim
      | some l =>
        rw [es] at f
        exact hR vs ds H1 J1 g l w1.same st es fun T S wk s kp hl => f T S H1 J1 fp2 g w2 wk s kp lk hl ((step_nil t1).weak fun b z => ow b z)
theorem Stds.two {g : List Addr} {vs : List V} {d1 d2 : PyData} (h : Stds K g H J vs [d1, d2]) : ∃ v1 v2, vs = [v1, v2] ∧ Std K g H J v1 d1 ∧ Std K g H J v2 d2 := by
  cases h with
  | cons a t =>
    cases t with
    | cons b t => cases t; exact ⟨_, _, rfl, a, b⟩
theorem Stds.one {g : List Addr} {vs : List V} {d1 : PyData} (h : Stds K g H J vs [d1]) : ∃ v1, vs = [v1] ∧ Std K g H J v1 d1 := by
  cases h with
  | cons a t => cases t; exact ⟨_, rfl, a⟩
theorem zip_read {es : CEs} {Q : It → Hp → Prop} (h : tI K W Phi (.prs true es) sg H Q) : iZipB K (seqOpd K W (rd1 Phi) es) sg H Q := by
  obtain ⟨J, r, fp, w, f⟩ := h
  simp only [evI] at f
  refine lock_reads w f fun vs ds H1 J1 g l sm st ep q => ?_
  rcases prsI_some ep with ⟨as, bs, _, rfl, hl, rfl⟩ | ⟨as, bs, _, rfl, hl, rfl⟩ | ⟨as, bs, _, rfl, hl, rfl⟩ | ⟨_, z, _⟩
  · obtain ⟨v1, v2, rfl, s1, s2⟩ := st.two
    obtain ⟨a, xs, rfl, a1, a2⟩ := s1.list sm
    obtain ⟨b, ys, rfl, b1, b2⟩ := s2.list sm
    refine ⟨a, b, xs, ys, rfl, .inl ⟨a1, b1, ?_⟩⟩
    refine q (Itz K a b) (fun H J => Std K g H J (.ref a) (.list as) ∧ Std K g H J (.ref b) (.list bs)) (walks_zipL (fun H J sm s => ?_) fun H J T o sm s hT => ?_) ⟨s1, s2⟩ (fun F F' H J H' J' s t n => ⟨s.1.keep t n, s.2.keep t n⟩) ?_
    · obtain ⟨_, xs, e, c1, c2⟩ := s.1.list sm
      cases e
      obtain ⟨_, ys, e, d1, d2⟩ := s.2.list sm
      cases e
      exact ⟨xs, ys, c1, d1, c2, d2⟩
    · have st : Step (fun _ => False) H J (fun _ => False) (upd H T o) (upd J T o) := step_new sm hT
      exact ⟨s.1.keep st fun _ _ => id, s.2.keep st fun _ _ => id⟩
    · rw [List.length_zipWith, sizeLine_eq]
      omega
  · obtain ⟨v1, v2, rfl, s1, s2⟩ := st.two
    obtain ⟨a, xs, rfl, a1, a2⟩ := s1.tuple sm
    obtain ⟨b, ys, rfl, b1, b2⟩ := s2.tuple sm
    refine ⟨a, b, xs, ys, rfl, .inr (.inl ⟨a1, b1, ?_⟩)⟩
    refine q (RZ.ItzT K a b) (fun H J => Std K g H J (.ref a) (.tuple as) ∧ Std K g H J (.ref b) (.tuple bs)) (walks_zipT (fun H J sm s => ?_) fun H J T o sm s hT => ?_) ⟨s1, s2⟩ (fun F F' H J H' J' s t n => ⟨s.1.keep t n, s.2.keep t n⟩) ?_
    · obtain ⟨_, xs, e, c1, c2⟩ := s.1.tuple sm
      cases e
      obtain ⟨_, ys, e, d1, d2⟩ := s.2.tuple sm
      cases e
      exact ⟨xs, ys, c1, d1, c2, d2⟩
    · have st : Step (fun _ => False) H J (fun _ => False) (upd H T o) (upd J T o) := step_new sm hT
      exact ⟨s.1.keep st fun _ _ => id, s.2.keep st fun _ _ => id⟩
    · rw [List.length_zipWith, sizeLine_eq]
      omega
  · obtain ⟨v1, v2, rfl, s1, s2⟩ := st.two
    obtain ⟨a, xs, rfl, a1, a2⟩ := s1.tuple sm
    obtain ⟨b, ys, rfl, b1, b2⟩ := s2.list sm
    refine ⟨a, b, xs, ys, rfl, .inr (.inr ⟨a1, b1, ?_⟩)⟩
    refine q (ItzM K a b) (fun H J => Std K g H J (.ref a) (.tuple as) ∧ Std K g H J (.ref b) (.list bs)) (walks_zipM (fun H J sm s => ?_) fun H J T o sm s hT => ?_) ⟨s1, s2⟩ (fun F F' H J H' J' s t n => ⟨s.1.keep t n, s.2.keep t n⟩) ?_
    · obtain ⟨_, xs, e, c1, c2⟩ := s.1.tuple sm
      cases e
      obtain ⟨_, ys, e, d1, d2⟩ := s.2.list sm
      cases e
      exact ⟨xs, ys, c1, d1, c2, d2⟩
    · have st : Step (fun _ => False) H J (fun _ => False) (upd H T o) (upd J T o) := step_new sm hT
      exact ⟨s.1.keep st fun _ _ => id, s.2.keep st fun _ _ => id⟩
    · rw [List.length_zipWith, sizeLine_eq]
      omega
  · cases z
theorem enum_read {es : CEs} {Q : It → Hp → Prop} (h : tI K W Phi (.prs false es) sg H Q) : iEnum K (seqOpd K W (rd1 Phi) es) sg H Q := by
  obtain ⟨J, r, fp, w, f⟩ := h
  simp only [evI] at f
  refine lock_reads w f fun vs ds H1 J1 g l sm st ep q => ?_
  rcases prsI_some ep with ⟨_, _, z, _⟩ | ⟨_, _, z, _⟩ | ⟨_, _, z, _⟩ | ⟨as, _, rfl, hl, rfl⟩
  · cases z
  · cases z
  · cases z
  · obtain ⟨v1, rfl, s1⟩ := st.one
    obtain ⟨a, xs, rfl, a1, a2⟩ := s1.list sm
    refine ⟨a, xs, rfl, a1, ?_⟩
    refine q (Ite K a) (fun H J => Std K g H J (.ref a) (.list as)) (walks_enum (fun H J sm s => ?_) fun H J T o sm s hT => ?_) s1 (fun F F' H J H' J' s t n => s.keep t n) ?_
    · obtain ⟨_, xs, e, c1, c2⟩ := s.list sm
      cases e
      exact ⟨xs, c1, c2⟩
    · have st : Step (fun _ => False) H J (fun _ => False) (upd H T o) (upd J T o) := step_new sm hT
      exact s.keep st fun _ _ => id
    · rw [enumL_len, sizeLine_eq]
      omega
end
end Ev
end

section
set_option Elab.async false
set_option linter.all false
set_option maxRecDepth 100000
set_option maxHeartbeats 4000000
namespace L2
open PySem PySem.Spec PyProof.Rows
theorem Inv.frzTv {X : Cx} {pins : List (Addr × Obj)} {σ : St} {H : Hp} {s : Shared} {d : Addr} {o : Obj} {kvs : List (List Key × V)} (I : Inv X pins σ H s) (h : H d = some (.frz o (.dT kvs))) :
    (d == sysModules) = false ∧ s.heap.get? d = some o ∧ o.ExactDict ∧ ∃ (es : Array DictEntry) (ep : Nat), o.data = .dict es ep ∧ es.size = kvs.length ∧
      ∀ (i : Nat) (k : List Key) (v : V), kvs[i]? = some (k, v) → ∃ (en : DictEntry) (q : Addr), es[i]? = some en ∧ en.key = .ref q ∧ H q = some (.tup (k.map kV)) ∧ RelV v en.val := by
  obtain ⟨hd, z, hs, xs, pr, o', es, ep, ho, hx, hdt, he, _⟩ := I.hok d _ h
  rw [hd] at ho
  cases ho
  refine ⟨hs, hd, hx, es, ep, hdt, ?_, fun i k v e => ?_⟩
  · have l1 : es.size = xs.length := size_of_entries he
    have l2 : kvs.length = xs.length := Paired.length pr
    omega
  · obtain ⟨b, hb, e1, e2, e3⟩ := paired_get pr e
    have q := entry_at he i
    rw [hb] at q
    exact ⟨_, b.2.1, q, rfl, e2, e3⟩
def ItiT (d : Addr) (o : Obj) (kvs : List (List Key × V)) : It :=
  ⟨fun i H => H d = some (.frz o (.dT kvs)) ∧ i < kvs.length, fun i H x H' => ∃ (T : Addr) (k : List Key) (v : V) (q : Addr), kvs[i]? = some (k, v) ∧ x = .ref T ∧ H q = some (.tup (k.map kV)) ∧ H T = none ∧ H' = upd H T (.tup [.ref q, v]), fun i H => H d = some (.frz o (.dT kvs)) ∧ kvs.length ≤ i⟩
section
variable {P : Program} {w : World} {K : PySem.W.Frag} {d : Addr} {o : Obj} {es : Array DictEntry} {ep : Nat}
theorem turn_itemsT {kvs : List (List Key × V)} {elts : List Expr} {kk : Nat} {tpos : Pos} (it : Addr) (hod : o.data = .dict es ep) :
    Turn P w K (.Tuple elts kk tpos) (ItiT d o kvs) [it] it (fun i h => ∃ ok ov, h.get? it = some (DVw.itmOb d .none i kvs.length ep ok ov)) where
  mem := by simp
  obj := fun i h st b hb => by
    have e : b = it := by simpa using hb
    subst e
    obtain ⟨ok, ov, e⟩ := st
    exact ⟨_, e, fun v z => nomatch z⟩
  keep := fun i h h' st k => let ⟨ok, ov, e⟩ := st; ⟨ok, ov, k it (by simp) _ e⟩
  item := by
    intro X hP hw hK hc i pins s σ H E I hf st hg
    subst hP hw hK
    obtain ⟨hd, hi⟩ := hg
    obtain ⟨hs, hgd, hx, es', ep', hdt, hsz, ent⟩ := I.frzTv hd
    obtain ⟨rfl, rfl⟩ := dict_ep hod hdt
    obtain ⟨⟨k, v⟩, hkv⟩ : ∃ p, kvs[i]? = some p := ⟨kvs[i], List.getElem?_eq_getElem hi⟩
    obtain ⟨e, q, he, hkey, hq, ru⟩ := ent i k v hkv
    obtain ⟨ok, ov, hit⟩ := st
    have hlt : it < s.heap.objs.size := Heap.lt_size hit
    refine DVw.itm_item hit hgd hdt hsz he fun h' b1 b2 b3 b4 => ?_
    refine ⟨_, rfl, wpAny_letOwnedTupleGo_items (s := { s with heap := h' }) (d := d) (i := i + 1) (n := kvs.length) (ep := ep') (ok := e.key) (ov := e.val) b1 fun h'' he' sb => ?_⟩
    have hT2 : h''.get? s.heap.objs.size = some { cls := .type "tuple", data := .seq #[e.key, e.val] } := (sb.2 _ (Nat.ne_of_gt hlt)).trans b2
    have new : ObjOk X.prog X.w (upd H s.heap.objs.size (.tup [.ref q, v])) h'' s.heap.objs.size (.tup [.ref q, v]) :=
      ⟨by show 2 ≤ sizeLine; decide, [e.key, e.val], .cons hkey (.cons ru .nil), ⟨_, hT2, rfl, _, rfl⟩⟩
    have I1 : Inv X pins σ (upd H s.heap.objs.size (.tup [.ref q, v])) { s with heap := h'' } :=
      I.turnedNew (t' := s.toks) (ch := [it]) (fun b ob hb z => (sb.2 b (by simpa using hb)).trans (b4 b ob (by simpa using hb) z)) hf (Nat.le_refl _) new
    refine ⟨.ref s.heap.objs.size, _, I1, rfl, ⟨_, k, v, q, hkv, rfl, hq, I.hok.fresh (Nat.le_refl _), rfl⟩, ⟨e.key, e.val, he'⟩, fun b hb => ?_⟩
    have z : b = it := by simpa using hb
    rw [z, upd_ne (Nat.ne_of_lt hlt)]
    exact (hf it (by simp)).1
  done := by
    intro X hP hw hK hc i pins s σ H E I hf st hg
    subst hP hw hK
    obtain ⟨hd, hi⟩ := hg
    obtain ⟨f0, f1, f2, f3, f4, f5⟩ := hf it (by simp)
    obtain ⟨hs, hgd, hx, es', ep', hdt, hsz, ent⟩ := I.frzTv hd
    obtain ⟨rfl, rfl⟩ := dict_ep hod hdt
    obtain ⟨ok, ov, hit⟩ := st
    have he : es'[i]? = none := Array.getElem?_eq_none (by rw [hsz]; exact hi)
    exact DVw.itm_end (I.ok.hd hc) hit hgd hdt hsz he fun h' eb => ⟨rfl, I.turned (t' := s.toks) (fun b ob hb e => eb b ob hb e) f0 f1 f3 f4 f5⟩
  self := fun A i s Q E st h => let ⟨_, _, e⟩ := st; PySem.W.kcp_self e h
end
section
variable {X : Cx} {e : Expr} {td : TE} {apos cpos : Pos}
end
end L2
end

section
set_option Elab.async false
set_option linter.all false
set_option maxRecDepth 100000
set_option maxHeartbeats 4000000
namespace Ev
open PySem L2
variable [Errs]
def iIts (td : TE) : TI := fun sg H R => td sg H fun x H1 => ∃ d o, x = .ref d ∧ ((∃ ks, H1 d = some (.frz o (.dK ks)) ∧ (ks.length ≤ sizeLine → R (Iti d o ks) H1)) ∨ ∃ ks, H1 d = some (.frz o (.dT ks)) ∧ (ks.length ≤ sizeLine → R (ItiT d o ks) H1))
section
variable {X : Cx} {e : Expr} {td : TE} {apos cpos : Pos}
theorem pi_its {elts : List Expr} {kk : Nat} {tpos : Pos} (he : PE X e td) (hbase : attributeBase e "items" X.env (eval e X.env) = eval e X.env) (hline : (apos.endLine == cpos.line) = true) :
    PI X (.Tuple elts kk tpos) (.Call (.Attribute e "items" apos) [] [] cpos) (iIts td) := by
  refine ⟨fun pins s sg H R I h => ?_⟩
  refine wpAny_Call_method (T := "dict") (id := "dict.items") hbase rfl hline PySem.F.plainAttrs_dict PySem.F.slot_dict_items PySem.F.type_dict_items (thn (he.run pins s sg H _ I h) fun u s1 ⟨x, H1, I1, rx, d, o, ex, q⟩ => ?_)
  subst ex
  obtain rfl : u = Value.ref d := rx
  have I2 : Inv X pins sg H1 { s1 with heap := s1.heap.push { cls := .type "dict_items", data := .fields #[.ref d] } } := I1.kept (t' := s1.toks) fun b ob q => Heap.get?_push_of_some _ q
  have raw : ∀ {es ep} {T : It} {n : Nat}, (d == sysModules) = false → s1.heap.get? d = some o → o.ExactDict → o.data = .dict es ep → es.size = n → Turn X.prog X.w X.K (.Tuple elts kk tpos) T [s1.heap.objs.size + 1] (s1.heap.objs.size + 1) (fun i h => ∃ ok ov, h.get? (s1.heap.objs.size + 1) = some (DVw.itmOb d .none i n ep ok ov)) → R T H1 →
      s1.TypeIs (.ref d) "dict" ∧ (∀ a, Value.ref d = .ref a → ∃ ob, s1.heap.get? a = some ob ∧ ob.dict = none) ∧ wpAny (model X.prog X.w) X.A (callWith cpos (.builtin "dict.items") [.ref d] [] []) (fun v s2 => wpAny (model X.prog X.w) X.A (pyIter v) (PIE X pins sg (.Tuple elts kk tpos) R) X.xe s2) X.xe s1 := by
    intro es ep T n hs hgd hx hdt hsz tn q
    refine ⟨(show DT.Raw s1.heap d es ep from ⟨o, hgd, hx, hdt⟩).typeIs, fun a ea => by cases ea; exact ⟨o, hgd, hx.2.1⟩, ?_⟩
    refine PyProof.Rows.callWith_method0 (env := X.env) (first := [.ref d]) (DT.callItems (es := es) (ep := ep) hs ⟨o, hgd, hx, hdt⟩ ?_)
    refine DSub.iter_itms (Heap.get?_push_size _ rfl) (Heap.get?_push_of_some _ hgd) hdt ?_
    have sz : (s1.heap.push { cls := .type "dict_items", data := .fields #[.ref d] }).objs.size = s1.heap.objs.size + 1 := PyProof.Rows.size_push' _ _
    rw [← sz] at tn
    refine pi_one (tk := s1.toks) I2 _ tn ⟨.none, .none, ?_⟩ q
    rw [← hsz]
    exact Heap.get?_push_size _ rfl
  rcases q with ⟨ks, hd, q⟩ | ⟨ks, hd, q⟩
  · obtain ⟨hs, hgd, hx, es, ep, vs, hdt, hsz, kv, hm⟩ := I1.frzK hd
    obtain ⟨_, hz, _⟩ := I1.hok d _ hd
    exact raw hs hgd hx hdt hsz (turn_items _ hdt) (q hz)
  · obtain ⟨hs, hgd, hx, es, ep, hdt, hsz, ent⟩ := I1.frzTv hd
    obtain ⟨_, hz, _⟩ := I1.hok d _ hd
    exact raw hs hgd hx hdt hsz (turn_itemsT _ hdt) (q hz)
end
section
variable {K : PySem.W.Frag} {W : WX} {sg : St} {H J : Hp} {fp : Nat → List Addr}
theorem pairL_len {kvs : List (PyData × PyData)} {α : Type} {f : α → PyData} {ks : List α} (e : kvs.map (·.1) = ks.map f) : (pairL kvs).length = ks.length := by
  have := congrArg List.length e
  rw [List.length_map, List.length_map] at this
  unfold pairL
  rw [List.length_map, this]
theorem pairL_at {kvs : List (PyData × PyData)} {i : Nat} {k v : PyData} (h1 : (kvs.map (·.1))[i]? = some k) (h2 : (kvs.map (·.2))[i]? = some v) : (pairL kvs)[i]? = some (.tuple [k, v]) := by
  rw [List.getElem?_map] at h1 h2
  obtain ⟨p, hp, rfl⟩ := Option.map_eq_some_iff.mp h1
  rw [hp] at h2
  unfold pairL
  rw [List.getElem?_map, hp]
  have : p.2 = v := by simpa using h2
  rw [← this]; rfl
theorem walks_iK {a : Addr} {o : Obj} {ks : List (Key × V)} {kvs : List (PyData × PyData)} (e : kvs.map (·.1) = ks.map fun k => keyDK k.1) : Walks K (Iti a o ks) (pairL kvs) (fun _ J => J a = some (.frz o (.dK ks)) ∧ ShAll K J (ks.map (·.2)) (kvs.map (·.2))) where
  go := fun i H J sm s h => ⟨sm _ _ s.1, by rw [pairL_len e] at h; exact h⟩
  stop := fun i H J sm s h _ => ⟨sm _ _ s.1, by rw [pairL_len e] at h; exact h⟩
  yld := fun i H J v H' sm s h y => by
    obtain ⟨T, k, u, hk, rfl, hT, rfl⟩ := y
    obtain ⟨y, hy, sy⟩ := shsGetV (i := i) (v := u) s.2 (by rw [List.getElem?_map, hk]; rfl)
    have st : Step (fun _ => False) H J (fun _ => False) (upd H T (.tup [kV k, u])) (upd J T (.tup [kV k, u])) := step_new sm hT
    exact ⟨_, .tuple [keyDK k, y], pairL_at (by rw [e, List.getElem?_map, hk]; rfl) hy, .tup upd_same (.cons (keyDK_sh k) (.cons (shMono st.js sy) .nil)), same_upd2 sm, ⟨st.js _ _ s.1, shsMono st.js s.2⟩, st⟩
theorem walks_iT {a : Addr} {o : Obj} {ks : List (List Key × V)} {kvs : List (PyData × PyData)} (e : kvs.map (·.1) = ks.map fun k => PyData.tuple (k.1.map keyDK)) : Walks K (ItiT a o ks) (pairL kvs) (fun _ J => J a = some (.frz o (.dT ks)) ∧ ShAll K J (ks.map (·.2)) (kvs.map (·.2))) where
  go := fun i H J sm s h => ⟨sm _ _ s.1, by rw [pairL_len e] at h; exact h⟩
  stop := fun i H J sm s h _ => ⟨sm _ _ s.1, by rw [pairL_len e] at h; exact h⟩
  yld := fun i H J v H' sm s h y => by
    obtain ⟨T, k, u, q, hk, rfl, hq, hT, rfl⟩ := y
    obtain ⟨y, hy, sy⟩ := shsGetV (i := i) (v := u) s.2 (by rw [List.getElem?_map, hk]; rfl)
    obtain ⟨h1, h2, h3⟩ := share_keys (K := K) sm hq
    have st : Step (fun _ => False) H (upd J q (.tup (k.map kV))) (fun _ => False) (upd H T (.tup [.ref q, u])) (upd (upd J q (.tup (k.map kV))) T (.tup [.ref q, u])) := step_new h2 hT
    have st2 := h3.trans st
    exact ⟨_, .tuple [.tuple (k.map keyDK), y], pairL_at (by rw [e, List.getElem?_map, hk]; rfl) hy, .tup upd_same (.cons (shMono st.js h1) (.cons (shMono st2.js sy) .nil)), same_upd2 h2, ⟨st2.js _ _ s.1, shsMono st2.js s.2⟩, st2⟩
theorem its_sh {d : PyData} {r1 : Ro} {Q : It → Hp → Prop} {v : V} {H1 J1 : Hp} {fp1 : Nat → List Addr} (w1 : Wf K H1 J1 sg r1 fp1) (q : Sh K J1 v d) (f : FinI K W sg H1 J1 fp1 (itsI d r1) Q) :
    ∃ d o, v = .ref d ∧ ((∃ ks, H1 d = some (.frz o (.dK ks)) ∧ (ks.length ≤ sizeLine → Q (Iti d o ks) H1)) ∨ ∃ ks, H1 d = some (.frz o (.dT ks)) ∧ (ks.length ≤ sizeLine → Q (ItiT d o ks) H1)) := by
  cases q with
  | dK h1 h2 h3 =>
    rename_i a o ks kvs
    refine ⟨a, o, rfl, .inl ⟨ks, w1.same _ _ h1, fun hl => ?_⟩⟩
    exact f (Iti a o ks) _ H1 J1 fp1 [] w1 (walks_iK h2) ⟨h1, h3⟩ (fun F F' H J H' J' s t _ => ⟨t.js _ _ s.1, shsMono t.js s.2⟩) .nil (by rw [pairL_len h2]; exact hl) (nil_step Step.refl)
  | dT h1 h2 h3 =>
    rename_i a o ks kvs
    refine ⟨a, o, rfl, .inr ⟨ks, w1.same _ _ h1, fun hl => ?_⟩⟩
    exact f (ItiT a o ks) _ H1 J1 fp1 [] w1 (walks_iT h2) ⟨h1, h3⟩ (fun F F' H J H' J' s t _ => ⟨t.js _ _ s.1, shsMono t.js s.2⟩) .nil (by rw [pairL_len h2]; exact hl) (nil_step Step.refl)
  | non => exact f.elim
  | bl _ => exact f.elim
  | int _ => exact f.elim
  | str _ => exact f.elim
  | lst _ _ => exact f.elim
  | tup _ _ => exact f.elim
  | scr _ => exact f.elim
  | exc0 _ _ => exact f.elim
  | exc1 _ _ _ _ => exact f.elim
  | fnv _ _ => exact f.elim
end
end Ev
end

section
set_option maxHeartbeats 8000000
set_option Elab.async false
set_option linter.all false
set_option maxRecDepth 100000
namespace Ev
open PySem L2
abbrev XP := Nat → List (PyData × PyData) → Ro → Prop
abbrev noE : XP := fun _ _ _ => False
structure Wp {A : Type} (x : R A) (Q : A → Ro → Prop) (E : XP) : Prop where
  out : match x with
    | .ok a r => Q a r
    | .ex c fs r => E c fs r
    | .bad => False
structure WpF (x : FR) (Q : Slot → Ro → Prop) (E : XP) : Prop where
  out : match x with
    | .ret s o => Q s o
    | .ex c fs o => E c fs o
    | .bad => False
def WpP (x : Option Slot) (r : Ro) (Q : Slot → Ro → Prop) : Prop := match x with
  | some s => Q s r
  | none => False
def WpO {A : Type} (x : Option A) (Q : A → Prop) : Prop := match x with
  | some a => Q a
  | none => False
section
variable {A B : Type} {Q : A → Ro → Prop} {E : XP}
theorem wp_ok {a : A} {r : Ro} : Wp (.ok a r) Q E ↔ Q a r := ⟨fun h => h.out, fun h => ⟨h⟩⟩
theorem wp_ex {c : Nat} {fs : List (PyData × PyData)} {r : Ro} : Wp (.ex c fs r) Q E ↔ E c fs r := ⟨fun h => h.out, fun h => ⟨h⟩⟩
theorem wp_bad : Wp (.bad : R A) Q E ↔ False := ⟨fun h => h.out, fun h => h.elim⟩
theorem wpf_ret {s : Slot} {o : Ro} {Q : Slot → Ro → Prop} : WpF (.ret s o) Q E ↔ Q s o := ⟨fun h => h.out, fun h => ⟨h⟩⟩
theorem wpf_ex {c : Nat} {fs : List (PyData × PyData)} {r : Ro} {Q : Slot → Ro → Prop} : WpF (.ex c fs r) Q E ↔ E c fs r := ⟨fun h => h.out, fun h => ⟨h⟩⟩
theorem wpf_bad {Q : Slot → Ro → Prop} : WpF .bad Q E ↔ False := ⟨fun h => h.out, fun h => h.elim⟩
theorem wpo_some {a : A} {P : A → Prop} : WpO (some a) P ↔ P a := Iff.rfl
theorem wpo_none {P : A → Prop} : WpO (none : Option A) P ↔ False := Iff.rfl
theorem wpp_some {s : Slot} {r : Ro} {P : Slot → Ro → Prop} : WpP (some s) r P ↔ P s r := Iff.rfl
theorem wpp_none {r : Ro} {P : Slot → Ro → Prop} : WpP none r P ↔ False := Iff.rfl
theorem Wp.bind {x : R A} {f : A → Ro → R B} {Q : B → Ro → Prop} : Wp (x.bind f) Q E ↔ Wp x (fun a r => Wp (f a r) Q E) E := by
  cases x <;> simp only [R.bind, wp_ok, wp_ex, wp_bad]
theorem Wp.imp {x : R A} {Q' : A → Ro → Prop} {E' : XP} (h : Wp x Q E) (i : ∀ a r, Q a r → Q' a r) (j : ∀ c fs r, E c fs r → E' c fs r) : Wp x Q' E' := by
  cases x with
  | ok a r => exact ⟨i a r h.out⟩
  | ex c fs r => exact ⟨j c fs r h.out⟩
  | bad => exact h.out.elim
theorem WpF.imp {x : FR} {Q Q' : Slot → Ro → Prop} {E E' : XP} (h : WpF x Q E) (i : ∀ a r, Q a r → Q' a r) (j : ∀ c fs r, E c fs r → E' c fs r) : WpF x Q' E' := by
  cases x with
  | ret a r => exact ⟨i a r h.out⟩
  | ex c fs r => exact ⟨j c fs r h.out⟩
  | bad => exact h.out.elim
theorem WpF.to {x : FR} {Q Q' : Slot → Ro → Prop} {E' : XP} (h : WpF x Q noE) (i : ∀ a r, Q a r → Q' a r) : WpF x Q' E' := h.imp i fun _ _ _ z => z.elim
theorem Wp.to {x : R A} {Q' : A → Ro → Prop} {E' : XP} (h : Wp x Q noE) (i : ∀ a r, Q a r → Q' a r) : Wp x Q' E' := h.imp i fun _ _ _ z => z.elim
theorem WpF.ret {x : FR} {Q : Slot → Ro → Prop} (h : WpF x Q noE) : ∃ s o, x = .ret s o ∧ Q s o := by
  cases x with
  | ret a r => exact ⟨a, r, rfl, h.out⟩
  | ex c fs r => exact h.out.elim
  | bad => exact h.out.elim
end

def kTr (Q : Bool → Ro → Prop) (s : Slot) (r : Ro) : Prop := match s with
  | .sh (.bool b) => Q b r
  | _ => False
def kNot (Q : Slot → Ro → Prop) (b : Bool) (r : Ro) : Prop := Q (.sh (.bool (!b))) r
section
variable (fu : Nat) (Phi : Nat → Ro → FR)
def kAnd (c : CE) (Q : Slot → Ro → Prop) (E : XP) (b : Bool) (r : Ro) : Prop := (b = true → Wp (ev Phi c r) Q E) ∧ (b = false → Q (.sh (.bool false)) r)
def kOr (c : CE) (Q : Slot → Ro → Prop) (E : XP) (b : Bool) (r : Ro) : Prop := (b = true → Q (.sh (.bool true)) r) ∧ (b = false → Wp (ev Phi c r) Q E)
def kPl (i : Nat) (Q : List Od → Ro → Prop) (ds : List Od) (r : Ro) : Prop := Q (.pl i :: ds) r
def kDb (d : PyData) (Q : List Od → Ro → Prop) (ds : List Od) (r : Ro) : Prop := Q (.da d :: ds) r
def kTm (s : Slot) (Q : List Od → Ro → Prop) (ds : List Od) (r : Ro) : Prop := Q (.tm s :: ds) r
def kDs (es : CEs) (Q : List Od → Ro → Prop) (E : XP) (s : Slot) (r : Ro) : Prop := WpO (toSh s) fun d => Wp (rds Phi es r) (kDb d Q) E
def kDA (es : CEs) (Q : List Od → Ro → Prop) (E : XP) (s : Slot) (r : Ro) : Prop := WpO (toSh s) fun d => Wp (evA Phi es r) (kDb d Q) E
def kTA (es : CEs) (Q : List Od → Ro → Prop) (E : XP) (s : Slot) (r : Ro) : Prop := Wp (evA Phi es r) (kTm s Q) E
def kCons (d : PyData) (Q : List PyData → Ro → Prop) (ds : List PyData) (r : Ro) : Prop := Q (d :: ds) r
def kEs (es : CEs) (Q : List PyData → Ro → Prop) (E : XP) (s : Slot) (r : Ro) : Prop := WpO (toSh s) fun d => Wp (evs Phi es r) (kCons d Q) E
def kOp (o : Op) (Q : Slot → Ro → Prop) (x : List Od) (r : Ro) : Prop := WpO (rdOs r x) fun ds => WpP (prim o ds) r Q
def kTup (Q : Slot → Ro → Prop) (ds : List PyData) (r : Ro) : Prop := Q (.sh (.tuple ds)) r
def kLst (Q : Slot → Ro → Prop) (ds : List PyData) (r : Ro) : Prop := Q (.lst ds) r
def kSh (Q : PyData → Ro → Prop) (s : Slot) (r : Ro) : Prop := WpO (toSh s) fun d => Q d r
def kBack (ls : List (Option Nat)) (r : Ro) (Q : Slot → Ro → Prop) (s : Slot) (o : Ro) : Prop := Q s (putBack ls o r)
def kBackE (ls : List (Option Nat)) (r : Ro) (E : XP) (c : Nat) (fs : List (PyData × PyData)) (o : Ro) : Prop := E c fs (putBack ls o r)
def kBackF (ls : List (Option Nat)) (r a : Ro) (Q : Slot → Ro → Prop) (s : Slot) (o : Ro) : Prop := match s with
  | .sh (.list ds) => (okF a && okF o && (intsD ds).isSome) = true ∧ Q (.lst ds) (putBack ls o r)
  | _ => False
def kCallF (f : Nat) (Q : Slot → Ro → Prop) (x : List Od) (r : Ro) : Prop := WpO (mvs x r) fun p => WpF (Phi f p.1) (kBackF p.2.1 p.2.2 p.1 Q) (fun _ _ _ => False)
def kCall (f : Nat) (Q : Slot → Ro → Prop) (E : XP) (x : List Od) (r : Ro) : Prop := WpO (mvs x r) fun p => WpF (Phi f p.1) (kBack p.2.1 p.2.2 Q) (kBackE p.2.1 p.2.2 E)
def kChain2 (p : Op) (y : PyData) (Q : Slot → Ro → Prop) (z : PyData) (r : Ro) : Prop := WpP (prim p [y, z]) r Q
def kChainB (p : Op) (c : CE) (y : PyData) (Q : Slot → Ro → Prop) (E : XP) (b : Bool) (r : Ro) : Prop := (b = true → Wp (ev Phi c r) (kSh (kChain2 p y Q)) E) ∧ (b = false → Q (.sh (.bool false)) r)
def kChain1 (o p : Op) (c : CE) (x : PyData) (Q : Slot → Ro → Prop) (E : XP) (y : PyData) (r : Ro) : Prop := WpP (prim o [x, y]) r (kTr (kChainB Phi p c y Q E))
def kChain0 (o p : Op) (b c : CE) (Q : Slot → Ro → Prop) (E : XP) (x : PyData) (r : Ro) : Prop := Wp (ev Phi b r) (kSh (kChain1 Phi o p c x Q E)) E
def kC3c (q : Op) (d : CE) (z : PyData) (Q : Slot → Ro → Prop) (E : XP) (b : Bool) (r : Ro) : Prop := (b = true → Wp (ev Phi d r) (kSh (kChain2 q z Q)) E) ∧ (b = false → Q (.sh (.bool false)) r)
def kC3d (p q : Op) (d : CE) (y : PyData) (Q : Slot → Ro → Prop) (E : XP) (z : PyData) (r : Ro) : Prop := WpP (prim p [y, z]) r (kTr (kC3c Phi q d z Q E))
def kC3e (p q : Op) (c d : CE) (y : PyData) (Q : Slot → Ro → Prop) (E : XP) (b : Bool) (r : Ro) : Prop := (b = true → Wp (ev Phi c r) (kSh (kC3d Phi p q d y Q E)) E) ∧ (b = false → Q (.sh (.bool false)) r)
def kC3f (o p q : Op) (c d : CE) (x : PyData) (Q : Slot → Ro → Prop) (E : XP) (y : PyData) (r : Ro) : Prop := WpP (prim o [x, y]) r (kTr (kC3e Phi p q c d y Q E))
def kC3g (o p q : Op) (b c d : CE) (Q : Slot → Ro → Prop) (E : XP) (x : PyData) (r : Ro) : Prop := Wp (ev Phi b r) (kSh (kC3f Phi o p q c d x Q E)) E
def lcStep (elt : CE) (tg : CT) (cond : CEs) (ws : List Nat) (d : PyData) (q : Ro) : R (Option PyData) := match asg tg d (wipeR q ws) with
  | some q1 => (evC Phi cond q1).bind fun b q2 => if b = true then (ev Phi elt q2).sh.bind fun y q3 => .ok (some y) (backR q q3 ws) else .ok none (backR q q2 ws)
  | none => .bad
def kLc2 (ls : List Lk) (Q : Slot → Ro → Prop) (ys : List PyData) (r : Ro) : Prop := Q (.lst ys) (unlks ls r)
def kLc (elt : CE) (tg : CT) (cond : CEs) (ws : List Nat) (Q : Slot → Ro → Prop) (E : XP) (x : List PyData × List Lk) (r : Ro) : Prop := Wp (comp (lcStep Phi elt tg cond ws) x.1 [] r) (kLc2 x.2 Q) E
def kSeqI (Q : List PyData × List Lk → Ro → Prop) (E : XP) (d : PyData) (r : Ro) : Prop := Wp (seqI d [] r) Q E
def kPrs (z : Bool) (Q : List PyData × List Lk → Ro → Prop) (x : List Od) (r : Ro) : Prop := WpO (lks x r) fun p => WpO (prsI z p.1) fun l => Q (l, p.2.1) p.2.2
def rgA (n : Int) : Prop := (in62 n && small n.toNat) = true
def rgB (m n : Int) : Prop := (in62 m && in62 n && small (n - m).toNat) = true
def kRng1 (Q : List PyData × List Lk → Ro → Prop) (d : PyData) (r : Ro) : Prop := match d with
  | .int n => rgA n ∧ Q (rngL 0 n.toNat, []) r
  | _ => False
def kRng2b (m : PyData) (Q : List PyData × List Lk → Ro → Prop) (d : PyData) (r : Ro) : Prop := match m, d with
  | .int m, .int n => rgB m n ∧ Q (rngL m (n - m).toNat, []) r
  | _, _ => False
def kRng2 (b : CE) (Q : List PyData × List Lk → Ro → Prop) (E : XP) (d : PyData) (r : Ro) : Prop := Wp (ev Phi b r) (kSh (kRng2b d Q)) E
def rgC3 (m n : Int) : Prop := (in62 m && in62 n && small (m - n).toNat) = true
def kRng3c (d e : PyData) (Q : List PyData × List Lk → Ro → Prop) (E : XP) (f : PyData) (r : Ro) : Prop := Wp (rng3I d e f r) Q E
def kRng3b (c : CE) (d : PyData) (Q : List PyData × List Lk → Ro → Prop) (E : XP) (e : PyData) (r : Ro) : Prop := Wp (ev Phi c r) (kSh (kRng3c d e Q E)) E
def kRng3 (b c : CE) (Q : List PyData × List Lk → Ro → Prop) (E : XP) (d : PyData) (r : Ro) : Prop := Wp (ev Phi b r) (kSh (kRng3b Phi c d Q E)) E
def kSl3 (d : PyData) (i : Int) (Q : Slot → Ro → Prop) (y : PyData) (r : Ro) : Prop := match y with
  | .int j => WpP (cutP d (some i) (some j)) r Q
  | _ => False
def kSl2 (hi : CE) (d : PyData) (Q : Slot → Ro → Prop) (E : XP) (x : PyData) (r : Ro) : Prop := match x with
  | .int i => Wp (ev Phi hi r) (kSh (kSl3 d i Q)) E
  | _ => False
def kSl1 (lo hi : CE) (Q : Slot → Ro → Prop) (E : XP) (d : PyData) (r : Ro) : Prop := Wp (ev Phi lo r) (kSh (kSl2 Phi hi d Q E)) E
def kXn (c : Nat) (f : String) (Q : Slot → Ro → Prop) (d : PyData) (r : Ro) : Prop := Q (.sh (excD c (if f = "" then [] else [(.str (Str.ofString f), d)]))) r
def kPop (i : Nat) (Q : Slot → Ro → Prop) (d : PyData) (r : Ro) : Prop := match d, r[i]? with
  | .int n, some (.lst ds) => WpO (ixN ds.length n) fun j => WpO ds[j]? fun y => Q (.sh y) (r.set i (.lst (ds.eraseIdx j)))
  | _, _ => False
end
def isLs (r : Ro) (i : Nat) : Bool := match r[i]? with
  | some (.lst _) => true
  | _ => false
section
variable {fu : Nat} {Phi : Nat → Ro → FR} {Q : Slot → Ro → Prop} {E : XP} {r : Ro}
theorem Wp.sh {x : R Slot} {Q : PyData → Ro → Prop} : Wp x.sh Q E ↔ Wp x (kSh Q) E := by
  cases x with
  | ok s r =>
    simp only [R.sh, R.bind, wp_ok, kSh]
    cases toSh s <;> first | rfl | (simp only [wp_ok, wp_ex, wp_bad, wpf_ret, wpf_ex, wpf_bad, WpO, WpP, R.bind, R.sh, R.truth]; done) | (simp only [wp_ok, wp_ex, wp_bad, wpf_ret, wpf_ex, wpf_bad, WpO, WpP, R.bind, R.sh, R.truth]; rfl) | (simp [wp_ok, wp_ex, wp_bad, wpf_ret, wpf_ex, wpf_bad, WpO, WpP, R.bind, R.sh, R.truth, toSh]; done)
  | ex c fs r => first | rfl | (simp only [wp_ok, wp_ex, wp_bad, wpf_ret, wpf_ex, wpf_bad, WpO, WpP, R.bind, R.sh, R.truth]; done) | (simp only [wp_ok, wp_ex, wp_bad, wpf_ret, wpf_ex, wpf_bad, WpO, WpP, R.bind, R.sh, R.truth]; rfl) | (simp [wp_ok, wp_ex, wp_bad, wpf_ret, wpf_ex, wpf_bad, WpO, WpP, R.bind, R.sh, R.truth, toSh]; done)
  | bad => first | rfl | (simp only [wp_ok, wp_ex, wp_bad, wpf_ret, wpf_ex, wpf_bad, WpO, WpP, R.bind, R.sh, R.truth]; done) | (simp only [wp_ok, wp_ex, wp_bad, wpf_ret, wpf_ex, wpf_bad, WpO, WpP, R.bind, R.sh, R.truth]; rfl) | (simp [wp_ok, wp_ex, wp_bad, wpf_ret, wpf_ex, wpf_bad, WpO, WpP, R.bind, R.sh, R.truth, toSh]; done)
theorem Wp.truth {x : R Slot} {Q : Bool → Ro → Prop} : Wp x.truth Q E ↔ Wp x (kTr Q) E := by
  cases x with
  | ok s r =>
    simp only [R.truth, R.bind, wp_ok, kTr]
    cases s with
    | sh d => cases d <;> first | rfl | (simp only [wp_ok, wp_ex, wp_bad, wpf_ret, wpf_ex, wpf_bad, WpO, WpP, R.bind, R.sh, R.truth]; done) | (simp only [wp_ok, wp_ex, wp_bad, wpf_ret, wpf_ex, wpf_bad, WpO, WpP, R.bind, R.sh, R.truth]; rfl) | (simp [wp_ok, wp_ex, wp_bad, wpf_ret, wpf_ex, wpf_bad, WpO, WpP, R.bind, R.sh, R.truth, toSh]; done)
    | _ => first | rfl | (simp only [wp_ok, wp_ex, wp_bad, wpf_ret, wpf_ex, wpf_bad, WpO, WpP, R.bind, R.sh, R.truth]; done) | (simp only [wp_ok, wp_ex, wp_bad, wpf_ret, wpf_ex, wpf_bad, WpO, WpP, R.bind, R.sh, R.truth]; rfl) | (simp [wp_ok, wp_ex, wp_bad, wpf_ret, wpf_ex, wpf_bad, WpO, WpP, R.bind, R.sh, R.truth, toSh]; done)
  | ex c fs r => first | rfl | (simp only [wp_ok, wp_ex, wp_bad, wpf_ret, wpf_ex, wpf_bad, WpO, WpP, R.bind, R.sh, R.truth]; done) | (simp only [wp_ok, wp_ex, wp_bad, wpf_ret, wpf_ex, wpf_bad, WpO, WpP, R.bind, R.sh, R.truth]; rfl) | (simp [wp_ok, wp_ex, wp_bad, wpf_ret, wpf_ex, wpf_bad, WpO, WpP, R.bind, R.sh, R.truth, toSh]; done)
  | bad => first | rfl | (simp only [wp_ok, wp_ex, wp_bad, wpf_ret, wpf_ex, wpf_bad, WpO, WpP, R.bind, R.sh, R.truth]; done) | (simp only [wp_ok, wp_ex, wp_bad, wpf_ret, wpf_ex, wpf_bad, WpO, WpP, R.bind, R.sh, R.truth]; rfl) | (simp [wp_ok, wp_ex, wp_bad, wpf_ret, wpf_ex, wpf_bad, WpO, WpP, R.bind, R.sh, R.truth, toSh]; done)
theorem wp_var {i : Nat} : Wp (ev Phi (.var i) r) Q E ↔ Wp (getV i r) Q E := by simp only [ev]
theorem wp_shr {i : Nat} : Wp (ev Phi (.shr i) r) Q E ↔ Wp (getV i r) Q E := by simp only [ev]
theorem wp_cst {d : PyData} : Wp (ev Phi (.cst d) r) Q E ↔ Q (.sh d) r := by simp only [ev, wp_ok, wp_ex, wp_bad]
theorem wp_glob {x : Str} {d : PyData} : Wp (ev Phi (.glob x d) r) Q E ↔ Q (.sh d) r := by simp only [ev, wp_ok, wp_ex, wp_bad]
theorem wp_xnew {c : Nat} {f : String} {a : CE} : Wp (ev Phi (.xnew c f a) r) Q E ↔ Wp (ev Phi a r) (kSh (kXn c f Q)) E := by
  simp only [ev, Wp.bind, Wp.sh]
  cases ev Phi a r with
  | ok s r1 =>
    simp only [wp_ok, kSh]
    cases toSh s with
    | none => rfl
    | some d => simp only [WpO, wp_ok, kXn]
  | ex c fs r1 => simp only [wp_ex]
  | bad => simp only [wp_bad]
theorem wp_sl2 {a lo hi : CE} : Wp (ev Phi (.sl2 a lo hi) r) Q E ↔ Wp (ev Phi a r) (kSh (kSl1 Phi lo hi Q E)) E := by
  simp only [ev, Wp.bind, Wp.sh]
  cases ev Phi a r with
  | ok s r1 =>
    simp only [wp_ok, kSh]
    cases toSh s with
    | none => rfl
    | some d =>
      simp only [WpO, kSl1]
      cases ev Phi lo r1 with
      | ok s2 r2 =>
        simp only [wp_ok, kSh]
        cases toSh s2 with
        | none => rfl
        | some x =>
          simp only [WpO, kSl2]
          cases x with
          | int i =>
            simp only [Wp.bind, Wp.sh]
            cases ev Phi hi r2 with
            | ok s3 r3 =>
              simp only [wp_ok, kSh]
              cases toSh s3 with
              | none => rfl
              | some y =>
                simp only [WpO, kSl3]
                cases y with
                | int j =>
                  simp only
                  cases cutP d (some i) (some j) with
                  | none => simp only [wp_bad, WpP]
                  | some q => simp only [wp_ok, WpP]
                | _ => simp only [wp_bad]
            | ex c fs r3 => simp only [wp_ex]
            | bad => simp only [wp_bad]
          | _ => simp only [wp_bad]
      | ex c fs r2 => simp only [wp_ex]
      | bad => simp only [wp_bad]
  | ex c fs r1 => simp only [wp_ex]
  | bad => simp only [wp_bad]
def kDsp1 (t : Bool) (Q : Slot → Ro → Prop) (x y : PyData) (r : Ro) : Prop := isKey t x = true ∧ Q (.dct t [(x, y)]) r
def kDsp (t : Bool) (v : CE) (Q : Slot → Ro → Prop) (E : XP) (x : PyData) (r : Ro) : Prop := Wp (ev Phi v r) (kSh (kDsp1 t Q x)) E
theorem wp_dsp {t : Bool} {k v : CE} : Wp (ev Phi (.dsp t k v) r) Q E ↔ Wp (ev Phi k r) (kSh (kDsp (Phi := Phi) t v Q E)) E := by
  simp only [ev, Wp.bind, Wp.sh]
  have e : (fun (x : PyData) (r1 : Ro) => Wp (ev Phi v r1) (kSh fun y r2 => Wp (if isKey t x = true then R.ok (Slot.dct t [(x, y)]) r2 else R.bad) Q E) E) = kDsp (Phi := Phi) t v Q E := by
    funext x r1
    have e2 : (fun (y : PyData) (r2 : Ro) => Wp (if isKey t x = true then R.ok (Slot.dct t [(x, y)]) r2 else R.bad) Q E) = kDsp1 t Q x := by
      funext y r2
      unfold kDsp1
      by_cases h : isKey t x = true
      · rw [if_pos h]; simp [h, wp_ok]
      · rw [if_neg h]; simp [h, wp_bad]
    unfold kDsp
    rw [← e2]
  rw [e]
theorem wp_ll0 {n : Nat} : Wp (ev Phi (.ll0 n) r) Q E ↔ Q (.ll false (List.replicate n [])) r := by simp only [ev, wp_ok, wp_ex, wp_bad]
theorem wp_dnew {t : Bool} : Wp (ev Phi (.dnew t) r) Q E ↔ Q (.dct t []) r := by simp only [ev, wp_ok, wp_ex, wp_bad]
theorem kOp_of {o : Op} {x : R (List Od)} : Wp (x.bind fun x r1 => match rdOs r1 x with
    | some ds => (match prim o ds with
      | some s => .ok s r1
      | none => .bad)
    | none => .bad) Q E ↔ Wp x (kOp o Q) E := by
  rw [Wp.bind]
  cases x with
  | ok x r =>
    simp only [wp_ok, kOp]
    cases rdOs r x with
    | none => first | rfl | (simp only [wp_ok, wp_ex, wp_bad, wpf_ret, wpf_ex, wpf_bad, WpO, WpP, R.bind, R.sh, R.truth]; done) | (simp only [wp_ok, wp_ex, wp_bad, wpf_ret, wpf_ex, wpf_bad, WpO, WpP, R.bind, R.sh, R.truth]; rfl) | (simp [wp_ok, wp_ex, wp_bad, wpf_ret, wpf_ex, wpf_bad, WpO, WpP, R.bind, R.sh, R.truth, toSh]; done)
    | some ds =>
      simp only [WpO]
      cases prim o ds <;> first | rfl | (simp only [wp_ok, wp_ex, wp_bad, wpf_ret, wpf_ex, wpf_bad, WpO, WpP, R.bind, R.sh, R.truth]; done) | (simp only [wp_ok, wp_ex, wp_bad, wpf_ret, wpf_ex, wpf_bad, WpO, WpP, R.bind, R.sh, R.truth]; rfl) | (simp [wp_ok, wp_ex, wp_bad, wpf_ret, wpf_ex, wpf_bad, WpO, WpP, R.bind, R.sh, R.truth, toSh]; done)
  | _ => first | rfl | (simp only [wp_ok, wp_ex, wp_bad, wpf_ret, wpf_ex, wpf_bad, WpO, WpP, R.bind, R.sh, R.truth]; done) | (simp only [wp_ok, wp_ex, wp_bad, wpf_ret, wpf_ex, wpf_bad, WpO, WpP, R.bind, R.sh, R.truth]; rfl) | (simp [wp_ok, wp_ex, wp_bad, wpf_ret, wpf_ex, wpf_bad, WpO, WpP, R.bind, R.sh, R.truth, toSh]; done)
theorem wp_op {o : Op} {es : CEs} : Wp (ev Phi (.op o es) r) Q E ↔ Wp (rds Phi es r) (kOp o Q) E := by simp only [ev]; exact kOp_of
theorem wp_xop {o : Op} {es : CEs} : Wp (ev Phi (.xop o es) r) Q E ↔ Wp (rds Phi es r) (kOp o Q) E := by simp only [ev]; exact kOp_of
theorem wp_meth {o : Op} {i : Nat} {es : CEs} : Wp (ev Phi (.meth o i es) r) Q E ↔ mTy o r i = true ∧ Wp (rds Phi es r) (kPl i (kOp o Q)) E := by
  simp only [ev]
  by_cases h : mTy o r i = true
  · rw [if_pos h, Wp.bind]
    simp only [h, true_and]
    cases rds Phi es r with
    | ok x r =>
      simp only [wp_ok, kPl, kOp]
      cases rdOs r (.pl i :: x) with
      | none => first | rfl | (simp only [wp_ok, wp_ex, wp_bad, wpf_ret, wpf_ex, wpf_bad, WpO, WpP, R.bind, R.sh, R.truth]; done) | (simp only [wp_ok, wp_ex, wp_bad, wpf_ret, wpf_ex, wpf_bad, WpO, WpP, R.bind, R.sh, R.truth]; rfl) | (simp [wp_ok, wp_ex, wp_bad, wpf_ret, wpf_ex, wpf_bad, WpO, WpP, R.bind, R.sh, R.truth, toSh]; done)
      | some ds =>
        simp only [WpO]
        cases prim o ds <;> first | rfl | (simp only [wp_ok, wp_ex, wp_bad, wpf_ret, wpf_ex, wpf_bad, WpO, WpP, R.bind, R.sh, R.truth]; done) | (simp only [wp_ok, wp_ex, wp_bad, wpf_ret, wpf_ex, wpf_bad, WpO, WpP, R.bind, R.sh, R.truth]; rfl) | (simp [wp_ok, wp_ex, wp_bad, wpf_ret, wpf_ex, wpf_bad, WpO, WpP, R.bind, R.sh, R.truth, toSh]; done)
    | _ => first | rfl | (simp only [wp_ok, wp_ex, wp_bad, wpf_ret, wpf_ex, wpf_bad, WpO, WpP, R.bind, R.sh, R.truth]; done) | (simp only [wp_ok, wp_ex, wp_bad, wpf_ret, wpf_ex, wpf_bad, WpO, WpP, R.bind, R.sh, R.truth]; rfl) | (simp [wp_ok, wp_ex, wp_bad, wpf_ret, wpf_ex, wpf_bad, WpO, WpP, R.bind, R.sh, R.truth, toSh]; done)
  · rw [if_neg h]
    simp [wp_bad, h]
theorem wp_tup {es : CEs} : Wp (ev Phi (.tup es) r) Q E ↔ Wp (evs Phi es r) (kTup Q) E := by simp only [ev, Wp.bind]; (first | rfl | (simp only [wp_ok, wp_ex, wp_bad, wpf_ret, wpf_ex, wpf_bad, WpO, WpP, R.bind, R.sh, R.truth]; done) | (simp only [wp_ok, wp_ex, wp_bad, wpf_ret, wpf_ex, wpf_bad, WpO, WpP, R.bind, R.sh, R.truth]; rfl) | (simp [wp_ok, wp_ex, wp_bad, wpf_ret, wpf_ex, wpf_bad, WpO, WpP, R.bind, R.sh, R.truth, toSh]; done))
theorem wp_lst {es : CEs} : Wp (ev Phi (.lst es) r) Q E ↔ Wp (evs Phi es r) (kLst Q) E := by simp only [ev, Wp.bind]; (first | rfl | (simp only [wp_ok, wp_ex, wp_bad, wpf_ret, wpf_ex, wpf_bad, WpO, WpP, R.bind, R.sh, R.truth]; done) | (simp only [wp_ok, wp_ex, wp_bad, wpf_ret, wpf_ex, wpf_bad, WpO, WpP, R.bind, R.sh, R.truth]; rfl) | (simp [wp_ok, wp_ex, wp_bad, wpf_ret, wpf_ex, wpf_bad, WpO, WpP, R.bind, R.sh, R.truth, toSh]; done))
theorem wp_not {c : CE} : Wp (ev Phi (.not c) r) Q E ↔ Wp (ev Phi c r) (kTr (kNot Q)) E := by simp only [ev, Wp.bind, Wp.truth]; (first | rfl | (simp only [wp_ok, wp_ex, wp_bad, wpf_ret, wpf_ex, wpf_bad, WpO, WpP, R.bind, R.sh, R.truth]; done) | (simp only [wp_ok, wp_ex, wp_bad, wpf_ret, wpf_ex, wpf_bad, WpO, WpP, R.bind, R.sh, R.truth]; rfl) | (simp [wp_ok, wp_ex, wp_bad, wpf_ret, wpf_ex, wpf_bad, WpO, WpP, R.bind, R.sh, R.truth, toSh]; done))
theorem wp_and {c d : CE} : Wp (ev Phi (.and c d) r) Q E ↔ Wp (ev Phi c r) (kTr (kAnd Phi d Q E)) E := by
  simp only [ev, Wp.bind, Wp.truth]
  cases ev Phi c r with
  | ok s r1 =>
    simp only [wp_ok, kTr]
    cases s with
    | sh x => cases x with
      | bool b => cases b <;> simp [kAnd, kOr, wp_ok, wp_ex, wp_bad]
      | _ => first | rfl | (simp only [wp_ok, wp_ex, wp_bad, wpf_ret, wpf_ex, wpf_bad, WpO, WpP, R.bind, R.sh, R.truth]; done) | (simp only [wp_ok, wp_ex, wp_bad, wpf_ret, wpf_ex, wpf_bad, WpO, WpP, R.bind, R.sh, R.truth]; rfl) | (simp [wp_ok, wp_ex, wp_bad, wpf_ret, wpf_ex, wpf_bad, WpO, WpP, R.bind, R.sh, R.truth, toSh]; done)
    | _ => first | rfl | (simp only [wp_ok, wp_ex, wp_bad, wpf_ret, wpf_ex, wpf_bad, WpO, WpP, R.bind, R.sh, R.truth]; done) | (simp only [wp_ok, wp_ex, wp_bad, wpf_ret, wpf_ex, wpf_bad, WpO, WpP, R.bind, R.sh, R.truth]; rfl) | (simp [wp_ok, wp_ex, wp_bad, wpf_ret, wpf_ex, wpf_bad, WpO, WpP, R.bind, R.sh, R.truth, toSh]; done)
  | _ => first | rfl | (simp only [wp_ok, wp_ex, wp_bad, wpf_ret, wpf_ex, wpf_bad, WpO, WpP, R.bind, R.sh, R.truth]; done) | (simp only [wp_ok, wp_ex, wp_bad, wpf_ret, wpf_ex, wpf_bad, WpO, WpP, R.bind, R.sh, R.truth]; rfl) | (simp [wp_ok, wp_ex, wp_bad, wpf_ret, wpf_ex, wpf_bad, WpO, WpP, R.bind, R.sh, R.truth, toSh]; done)
theorem wp_or {c d : CE} : Wp (ev Phi (.or c d) r) Q E ↔ Wp (ev Phi c r) (kTr (kOr Phi d Q E)) E := by
  simp only [ev, Wp.bind, Wp.truth]
  cases ev Phi c r with
  | ok s r1 =>
    simp only [wp_ok, kTr]
    cases s with
    | sh x => cases x with
      | bool b => cases b <;> simp [kAnd, kOr, wp_ok, wp_ex, wp_bad]
      | _ => first | rfl | (simp only [wp_ok, wp_ex, wp_bad, wpf_ret, wpf_ex, wpf_bad, WpO, WpP, R.bind, R.sh, R.truth]; done) | (simp only [wp_ok, wp_ex, wp_bad, wpf_ret, wpf_ex, wpf_bad, WpO, WpP, R.bind, R.sh, R.truth]; rfl) | (simp [wp_ok, wp_ex, wp_bad, wpf_ret, wpf_ex, wpf_bad, WpO, WpP, R.bind, R.sh, R.truth, toSh]; done)
    | _ => first | rfl | (simp only [wp_ok, wp_ex, wp_bad, wpf_ret, wpf_ex, wpf_bad, WpO, WpP, R.bind, R.sh, R.truth]; done) | (simp only [wp_ok, wp_ex, wp_bad, wpf_ret, wpf_ex, wpf_bad, WpO, WpP, R.bind, R.sh, R.truth]; rfl) | (simp [wp_ok, wp_ex, wp_bad, wpf_ret, wpf_ex, wpf_bad, WpO, WpP, R.bind, R.sh, R.truth, toSh]; done)
  | _ => first | rfl | (simp only [wp_ok, wp_ex, wp_bad, wpf_ret, wpf_ex, wpf_bad, WpO, WpP, R.bind, R.sh, R.truth]; done) | (simp only [wp_ok, wp_ex, wp_bad, wpf_ret, wpf_ex, wpf_bad, WpO, WpP, R.bind, R.sh, R.truth]; rfl) | (simp [wp_ok, wp_ex, wp_bad, wpf_ret, wpf_ex, wpf_bad, WpO, WpP, R.bind, R.sh, R.truth, toSh]; done)
theorem wp_chain {o p : Op} {a b c : CE} : Wp (ev Phi (.chain o p a b c) r) Q E ↔ Wp (ev Phi a r) (kSh (kChain0 Phi o p b c Q E)) E := by
  simp only [ev, Wp.bind, Wp.sh]
  have e : ∀ (x : PyData) (r : Ro), kChain0 Phi o p b c Q E x r ↔ Wp (ev Phi b r) (kSh fun y r2 => Wp (match prim o [x, y] with
    | some (.sh (.bool true)) => (ev Phi c r2).sh.bind fun z r3 => (match prim p [y, z] with
      | some s => R.ok s r3
      | none => .bad)
    | some (.sh (.bool false)) => .ok (.sh (.bool false)) r2
    | _ => .bad) Q E) E := by
    intro x r
    unfold kChain0
    cases ev Phi b r with
    | ok s r1 =>
      simp only [wp_ok, kSh]
      cases toSh s with
      | none => first | rfl | (simp only [wp_ok, wp_ex, wp_bad, wpf_ret, wpf_ex, wpf_bad, WpO, WpP, R.bind, R.sh, R.truth]; done) | (simp only [wp_ok, wp_ex, wp_bad, wpf_ret, wpf_ex, wpf_bad, WpO, WpP, R.bind, R.sh, R.truth]; rfl) | (simp [wp_ok, wp_ex, wp_bad, wpf_ret, wpf_ex, wpf_bad, WpO, WpP, R.bind, R.sh, R.truth, toSh]; done)
      | some y =>
        simp only [WpO, kChain1]
        cases prim o [x, y] with
        | none => first | rfl | (simp only [wp_ok, wp_ex, wp_bad, wpf_ret, wpf_ex, wpf_bad, WpO, WpP, R.bind, R.sh, R.truth]; done) | (simp only [wp_ok, wp_ex, wp_bad, wpf_ret, wpf_ex, wpf_bad, WpO, WpP, R.bind, R.sh, R.truth]; rfl) | (simp [wp_ok, wp_ex, wp_bad, wpf_ret, wpf_ex, wpf_bad, WpO, WpP, R.bind, R.sh, R.truth, toSh]; done)
        | some t =>
          simp only [WpP, kTr]
          cases t with
          | sh z => cases z with
            | bool q => cases q with
              | false => simp [kChainB, wp_ok, wp_ex, wp_bad]
              | true =>
                simp only [kChainB, forall_const, Bool.true_eq_false, false_implies, and_true, true_implies]
                show _ ↔ Wp _ Q E
                rw [Wp.bind, Wp.sh]
                cases ev Phi c r1 with
                | ok s2 r2 =>
                  simp only [wp_ok, kSh]
                  cases toSh s2 with
                  | none => first | rfl | (simp only [wp_ok, wp_ex, wp_bad, wpf_ret, wpf_ex, wpf_bad, WpO, WpP, R.bind, R.sh, R.truth]; done) | (simp only [wp_ok, wp_ex, wp_bad, wpf_ret, wpf_ex, wpf_bad, WpO, WpP, R.bind, R.sh, R.truth]; rfl) | (simp [wp_ok, wp_ex, wp_bad, wpf_ret, wpf_ex, wpf_bad, WpO, WpP, R.bind, R.sh, R.truth, toSh]; done)
                  | some z =>
                    simp only [WpO, kChain2]
                    cases prim p [y, z] <;> first | rfl | (simp only [wp_ok, wp_ex, wp_bad, wpf_ret, wpf_ex, wpf_bad, WpO, WpP, R.bind, R.sh, R.truth]; done) | (simp only [wp_ok, wp_ex, wp_bad, wpf_ret, wpf_ex, wpf_bad, WpO, WpP, R.bind, R.sh, R.truth]; rfl) | (simp [wp_ok, wp_ex, wp_bad, wpf_ret, wpf_ex, wpf_bad, WpO, WpP, R.bind, R.sh, R.truth, toSh]; done)
                | _ => first | rfl | (simp only [wp_ok, wp_ex, wp_bad, wpf_ret, wpf_ex, wpf_bad, WpO, WpP, R.bind, R.sh, R.truth]; done) | (simp only [wp_ok, wp_ex, wp_bad, wpf_ret, wpf_ex, wpf_bad, WpO, WpP, R.bind, R.sh, R.truth]; rfl) | (simp [wp_ok, wp_ex, wp_bad, wpf_ret, wpf_ex, wpf_bad, WpO, WpP, R.bind, R.sh, R.truth, toSh]; done)
            | _ => first | rfl | (simp only [wp_ok, wp_ex, wp_bad, wpf_ret, wpf_ex, wpf_bad, WpO, WpP, R.bind, R.sh, R.truth]; done) | (simp only [wp_ok, wp_ex, wp_bad, wpf_ret, wpf_ex, wpf_bad, WpO, WpP, R.bind, R.sh, R.truth]; rfl) | (simp [wp_ok, wp_ex, wp_bad, wpf_ret, wpf_ex, wpf_bad, WpO, WpP, R.bind, R.sh, R.truth, toSh]; done)
          | _ => first | rfl | (simp only [wp_ok, wp_ex, wp_bad, wpf_ret, wpf_ex, wpf_bad, WpO, WpP, R.bind, R.sh, R.truth]; done) | (simp only [wp_ok, wp_ex, wp_bad, wpf_ret, wpf_ex, wpf_bad, WpO, WpP, R.bind, R.sh, R.truth]; rfl) | (simp [wp_ok, wp_ex, wp_bad, wpf_ret, wpf_ex, wpf_bad, WpO, WpP, R.bind, R.sh, R.truth, toSh]; done)
    | _ => first | rfl | (simp only [wp_ok, wp_ex, wp_bad, wpf_ret, wpf_ex, wpf_bad, WpO, WpP, R.bind, R.sh, R.truth]; done) | (simp only [wp_ok, wp_ex, wp_bad, wpf_ret, wpf_ex, wpf_bad, WpO, WpP, R.bind, R.sh, R.truth]; rfl) | (simp [wp_ok, wp_ex, wp_bad, wpf_ret, wpf_ex, wpf_bad, WpO, WpP, R.bind, R.sh, R.truth, toSh]; done)
  cases ev Phi a r with
  | ok s r1 =>
    simp only [wp_ok, kSh]
    cases toSh s with
    | none => first | rfl | (simp only [wp_ok, wp_ex, wp_bad, wpf_ret, wpf_ex, wpf_bad, WpO, WpP, R.bind, R.sh, R.truth]; done) | (simp only [wp_ok, wp_ex, wp_bad, wpf_ret, wpf_ex, wpf_bad, WpO, WpP, R.bind, R.sh, R.truth]; rfl) | (simp [wp_ok, wp_ex, wp_bad, wpf_ret, wpf_ex, wpf_bad, WpO, WpP, R.bind, R.sh, R.truth, toSh]; done)
    | some x => simp only [WpO]; exact (e x r1).symm
  | _ => first | rfl | (simp only [wp_ok, wp_ex, wp_bad, wpf_ret, wpf_ex, wpf_bad, WpO, WpP, R.bind, R.sh, R.truth]; done) | (simp only [wp_ok, wp_ex, wp_bad, wpf_ret, wpf_ex, wpf_bad, WpO, WpP, R.bind, R.sh, R.truth]; rfl) | (simp [wp_ok, wp_ex, wp_bad, wpf_ret, wpf_ex, wpf_bad, WpO, WpP, R.bind, R.sh, R.truth, toSh]; done)
theorem wp_mp {m : Option Slot} {f : Ro → R Slot} {r : Ro} : Wp (match m with
    | some (.sh (.bool true)) => f r
    | some (.sh (.bool false)) => R.ok (.sh (.bool false)) r
    | _ => R.bad) Q E ↔ WpP m r (kTr fun b r' => (b = true → Wp (f r') Q E) ∧ (b = false → Q (.sh (.bool false)) r')) := by
  cases m with
  | none => first | rfl | (simp only [wp_ok, wp_ex, wp_bad, WpO, WpP, kTr, R.bind, R.sh, R.truth]; done) | (simp [wp_ok, wp_ex, wp_bad, WpO, WpP, kTr, R.bind, R.sh, R.truth, toSh]; done)
  | some s => cases s with
    | sh z => cases z with
      | bool q => cases q <;> simp [WpP, kTr, wp_ok]
      | _ => first | rfl | (simp only [wp_ok, wp_ex, wp_bad, WpO, WpP, kTr, R.bind, R.sh, R.truth]; done) | (simp [wp_ok, wp_ex, wp_bad, WpO, WpP, kTr, R.bind, R.sh, R.truth, toSh]; done)
    | _ => first | rfl | (simp only [wp_ok, wp_ex, wp_bad, WpO, WpP, kTr, R.bind, R.sh, R.truth]; done) | (simp [wp_ok, wp_ex, wp_bad, WpO, WpP, kTr, R.bind, R.sh, R.truth, toSh]; done)
theorem wp_chain3 {o p q : Op} {a b c d : CE} : Wp (ev Phi (.chain3 o p q a b c d) r) Q E ↔ Wp (ev Phi a r) (kSh (kC3g Phi o p q b c d Q E)) E := by
  have h2 : ∀ z : PyData, kChain2 q z Q = fun w r4 => Wp (match prim q [z, w] with
      | some s => R.ok s r4
      | none => .bad) Q E := fun z => by
    funext w r4
    refine propext ?_
    unfold kChain2
    cases prim q [z, w] <;> first | rfl | (simp only [wp_ok, wp_ex, wp_bad, WpO, WpP, kTr, R.bind, R.sh, R.truth]; done) | (simp [wp_ok, wp_ex, wp_bad, WpO, WpP, kTr, R.bind, R.sh, R.truth, toSh]; done)
  have h3 : ∀ y : PyData, kC3d Phi p q d y Q E = fun z r3 => Wp (match prim p [y, z] with
      | some (.sh (.bool true)) => (fun r3 => (ev Phi d r3).sh.bind fun w r4 => (match prim q [z, w] with
        | some s => R.ok s r4
        | none => .bad)) r3
      | some (.sh (.bool false)) => .ok (.sh (.bool false)) r3
      | _ => .bad) Q E := fun y => by
    funext z r3
    refine propext (Iff.trans ?_ (wp_mp (m := prim p [y, z]) (f := fun r3 => (ev Phi d r3).sh.bind fun w r4 => (match prim q [z, w] with
        | some s => R.ok s r4
        | none => .bad)) (r := r3)).symm)
    unfold kC3d
    have : kC3c Phi q d z Q E = fun b r' => (b = true → Wp ((ev Phi d r').sh.bind fun w r4 => (match prim q [z, w] with
        | some s => R.ok s r4
        | none => .bad)) Q E) ∧ (b = false → Q (.sh (.bool false)) r') := by
      funext b r'
      unfold kC3c
      rw [Wp.bind, Wp.sh, h2]
    rw [this]
  have h4 : ∀ x : PyData, kC3f Phi o p q c d x Q E = fun y r2 => Wp (match prim o [x, y] with
      | some (.sh (.bool true)) => (fun r2 => (ev Phi c r2).sh.bind fun z r3 => (match prim p [y, z] with
        | some (.sh (.bool true)) => (fun r3 => (ev Phi d r3).sh.bind fun w r4 => (match prim q [z, w] with
          | some s => R.ok s r4
          | none => .bad)) r3
        | some (.sh (.bool false)) => .ok (.sh (.bool false)) r3
        | _ => .bad)) r2
      | some (.sh (.bool false)) => .ok (.sh (.bool false)) r2
      | _ => .bad) Q E := fun x => by
    funext y r2
    refine propext (Iff.trans ?_ (wp_mp (m := prim o [x, y]) (f := fun r2 => (ev Phi c r2).sh.bind fun z r3 => (match prim p [y, z] with
        | some (.sh (.bool true)) => (fun r3 => (ev Phi d r3).sh.bind fun w r4 => (match prim q [z, w] with
          | some s => R.ok s r4
          | none => .bad)) r3
        | some (.sh (.bool false)) => .ok (.sh (.bool false)) r3
        | _ => .bad)) (r := r2)).symm)
    unfold kC3f
    have : kC3e Phi p q c d y Q E = fun b r' => (b = true → Wp ((ev Phi c r').sh.bind fun z r3 => (match prim p [y, z] with
        | some (.sh (.bool true)) => (fun r3 => (ev Phi d r3).sh.bind fun w r4 => (match prim q [z, w] with
          | some s => R.ok s r4
          | none => .bad)) r3
        | some (.sh (.bool false)) => .ok (.sh (.bool false)) r3
        | _ => .bad)) Q E) ∧ (b = false → Q (.sh (.bool false)) r') := by
      funext b r'
      unfold kC3e
      rw [Wp.bind, Wp.sh, h3]
    rw [this]
  have h5 : kC3g Phi o p q b c d Q E = fun x r1 => Wp ((ev Phi b r1).sh.bind fun y r2 => (match prim o [x, y] with
      | some (.sh (.bool true)) => (fun r2 => (ev Phi c r2).sh.bind fun z r3 => (match prim p [y, z] with
        | some (.sh (.bool true)) => (fun r3 => (ev Phi d r3).sh.bind fun w r4 => (match prim q [z, w] with
          | some s => R.ok s r4
          | none => .bad)) r3
        | some (.sh (.bool false)) => .ok (.sh (.bool false)) r3
        | _ => .bad)) r2
      | some (.sh (.bool false)) => .ok (.sh (.bool false)) r2
      | _ => .bad)) Q E := by
    funext x r1
    unfold kC3g
    rw [Wp.bind, Wp.sh, h4]
  rw [h5, ← Wp.sh, ← Wp.bind, ev]
  try exact Iff.rfl
theorem wp_lc {elt : CE} {tg : CT} {it : CI} {cond : CEs} {own : List (Str × Nat)} : Wp (ev Phi (.lc elt tg it cond own) r) Q E ↔ Wp (evI Phi it r) (kLc Phi elt tg cond (own.map (·.2)) Q E) E := by
  simp only [ev, Wp.bind]; (first | rfl | (simp only [wp_ok, wp_ex, wp_bad, wpf_ret, wpf_ex, wpf_bad, WpO, WpP, R.bind, R.sh, R.truth]; done) | (simp only [wp_ok, wp_ex, wp_bad, wpf_ret, wpf_ex, wpf_bad, WpO, WpP, R.bind, R.sh, R.truth]; rfl) | (simp [wp_ok, wp_ex, wp_bad, wpf_ret, wpf_ex, wpf_bad, WpO, WpP, R.bind, R.sh, R.truth, toSh]; done))
theorem wp_call {f : Nat} {es : CEs} : Wp (ev Phi (.call f es) r) Q E ↔ Wp (evA Phi es r) (kCall Phi f Q E) E := by
  simp only [ev, Wp.bind]
  cases evA Phi es r with
  | ok x r1 =>
    simp only [wp_ok, kCall]
    cases mvs x r1 with
    | none => first | rfl | (simp only [wp_ok, wp_ex, wp_bad, wpf_ret, wpf_ex, wpf_bad, WpO, WpP, R.bind, R.sh, R.truth]; done) | (simp only [wp_ok, wp_ex, wp_bad, wpf_ret, wpf_ex, wpf_bad, WpO, WpP, R.bind, R.sh, R.truth]; rfl) | (simp [wp_ok, wp_ex, wp_bad, wpf_ret, wpf_ex, wpf_bad, WpO, WpP, R.bind, R.sh, R.truth, toSh]; done)
    | some p =>
      obtain ⟨args, ls, r2⟩ := p
      simp only [WpO]
      cases Phi f args <;> first | rfl | (simp only [wp_ok, wp_ex, wp_bad, wpf_ret, wpf_ex, wpf_bad, WpO, WpP, R.bind, R.sh, R.truth]; done) | (simp only [wp_ok, wp_ex, wp_bad, wpf_ret, wpf_ex, wpf_bad, WpO, WpP, R.bind, R.sh, R.truth]; rfl) | (simp [wp_ok, wp_ex, wp_bad, wpf_ret, wpf_ex, wpf_bad, WpO, WpP, R.bind, R.sh, R.truth, toSh]; done)
  | _ => first | rfl | (simp only [wp_ok, wp_ex, wp_bad, wpf_ret, wpf_ex, wpf_bad, WpO, WpP, R.bind, R.sh, R.truth]; done) | (simp only [wp_ok, wp_ex, wp_bad, wpf_ret, wpf_ex, wpf_bad, WpO, WpP, R.bind, R.sh, R.truth]; rfl) | (simp [wp_ok, wp_ex, wp_bad, wpf_ret, wpf_ex, wpf_bad, WpO, WpP, R.bind, R.sh, R.truth, toSh]; done)
theorem wp_callF {f : Nat} {es : CEs} : Wp (ev Phi (.callF f es) r) Q E ↔ Wp (evA Phi es r) (kCallF Phi f Q) E := by
  simp only [ev, Wp.bind]
  cases evA Phi es r with
  | ok x r1 =>
    simp only [wp_ok, kCallF]
    cases mvs x r1 with
    | none => simp only [wp_bad, WpO]
    | some p =>
      obtain ⟨args, ls, r2⟩ := p
      simp only [WpO]
      cases Phi f args with
      | bad => simp only [wp_bad, wpf_bad]
      | ex c fs o => simp only [wp_bad, wpf_ex]
      | ret s o =>
        simp only [wpf_ret]
        cases s with
        | sh d =>
          cases d with
          | list ds =>
            simp only [kBackF]
            by_cases h : (okF args && okF o && (intsD ds).isSome) = true
            · rw [if_pos h]
              simp only [wp_ok]
              exact ⟨fun q => ⟨h, q⟩, fun q => q.2⟩
            · rw [if_neg h]
              simp only [wp_bad]
              exact ⟨fun q => q.elim, fun q => h q.1⟩
          | _ => simp only [kBackF, wp_bad]
        | _ => simp only [kBackF, wp_bad]
  | ex c fs r1 => simp only [wp_ex]
  | bad => simp only [wp_bad]
theorem isL_cases (r : Ro) (i : Nat) : (∃ ds, r[i]? = some (.lst ds)) ∨ isLs r i = false := by
  unfold isLs
  cases r[i]? with
  | none => exact .inr rfl
  | some s => cases s <;> first | exact .inr rfl | exact .inl ⟨_, rfl⟩
theorem wp_pop {i : Nat} {c : CE} : Wp (ev Phi (.pop i c) r) Q E ↔ isLs r i = true ∧ Wp (ev Phi c r) (kSh (kPop i Q)) E := by
  rcases isL_cases r i with ⟨ds, h⟩ | h
  case inr =>
    simp only [h, Bool.false_eq_true, false_and, iff_false]
    simp only [ev]
    unfold isLs at h
    split <;> simp_all [wp_bad]
  have h2 : isLs r i = true := by unfold isLs; rw [h]
  simp only [h2, true_and]
  simp only [ev, h, Wp.bind, Wp.sh]
  cases ev Phi c r with
  | ok s r1 =>
    simp only [wp_ok, kSh]
    cases toSh s with
    | none => first | rfl | (simp only [wp_ok, wp_ex, wp_bad, wpf_ret, wpf_ex, wpf_bad, WpO, WpP, R.bind, R.sh, R.truth]; done) | (simp only [wp_ok, wp_ex, wp_bad, wpf_ret, wpf_ex, wpf_bad, WpO, WpP, R.bind, R.sh, R.truth]; rfl) | (simp [wp_ok, wp_ex, wp_bad, wpf_ret, wpf_ex, wpf_bad, WpO, WpP, R.bind, R.sh, R.truth, toSh]; done)
    | some d =>
      simp only [WpO, kPop]
      cases d with
      | int n =>
        cases r1[i]? with
        | none => first | rfl | (simp only [wp_ok, wp_ex, wp_bad, wpf_ret, wpf_ex, wpf_bad, WpO, WpP, R.bind, R.sh, R.truth]; done) | (simp only [wp_ok, wp_ex, wp_bad, wpf_ret, wpf_ex, wpf_bad, WpO, WpP, R.bind, R.sh, R.truth]; rfl) | (simp [wp_ok, wp_ex, wp_bad, wpf_ret, wpf_ex, wpf_bad, WpO, WpP, R.bind, R.sh, R.truth, toSh]; done)
        | some t =>
          cases t with
          | lst es =>
            simp only
            cases ixN es.length n with
            | none => first | rfl | (simp only [wp_ok, wp_ex, wp_bad, wpf_ret, wpf_ex, wpf_bad, WpO, WpP, R.bind, R.sh, R.truth]; done) | (simp only [wp_ok, wp_ex, wp_bad, wpf_ret, wpf_ex, wpf_bad, WpO, WpP, R.bind, R.sh, R.truth]; rfl) | (simp [wp_ok, wp_ex, wp_bad, wpf_ret, wpf_ex, wpf_bad, WpO, WpP, R.bind, R.sh, R.truth, toSh]; done)
            | some j =>
              simp only
              cases es[j]? <;> first | rfl | (simp only [wp_ok, wp_ex, wp_bad, wpf_ret, wpf_ex, wpf_bad, WpO, WpP, R.bind, R.sh, R.truth]; done) | (simp only [wp_ok, wp_ex, wp_bad, wpf_ret, wpf_ex, wpf_bad, WpO, WpP, R.bind, R.sh, R.truth]; rfl) | (simp [wp_ok, wp_ex, wp_bad, wpf_ret, wpf_ex, wpf_bad, WpO, WpP, R.bind, R.sh, R.truth, toSh]; done)
          | _ => first | rfl | (simp only [wp_ok, wp_ex, wp_bad, wpf_ret, wpf_ex, wpf_bad, WpO, WpP, R.bind, R.sh, R.truth]; done) | (simp only [wp_ok, wp_ex, wp_bad, wpf_ret, wpf_ex, wpf_bad, WpO, WpP, R.bind, R.sh, R.truth]; rfl) | (simp [wp_ok, wp_ex, wp_bad, wpf_ret, wpf_ex, wpf_bad, WpO, WpP, R.bind, R.sh, R.truth, toSh]; done)
      | _ => first | rfl | (simp only [wp_ok, wp_ex, wp_bad, wpf_ret, wpf_ex, wpf_bad, WpO, WpP, R.bind, R.sh, R.truth]; done) | (simp only [wp_ok, wp_ex, wp_bad, wpf_ret, wpf_ex, wpf_bad, WpO, WpP, R.bind, R.sh, R.truth]; rfl) | (simp [wp_ok, wp_ex, wp_bad, wpf_ret, wpf_ex, wpf_bad, WpO, WpP, R.bind, R.sh, R.truth, toSh]; done)
  | _ => first | rfl | (simp only [wp_ok, wp_ex, wp_bad, wpf_ret, wpf_ex, wpf_bad, WpO, WpP, R.bind, R.sh, R.truth]; done) | (simp only [wp_ok, wp_ex, wp_bad, wpf_ret, wpf_ex, wpf_bad, WpO, WpP, R.bind, R.sh, R.truth]; rfl) | (simp [wp_ok, wp_ex, wp_bad, wpf_ret, wpf_ex, wpf_bad, WpO, WpP, R.bind, R.sh, R.truth, toSh]; done)
theorem wp_evs_nil {Q : List PyData → Ro → Prop} : Wp (evs Phi .nil r) Q E ↔ Q [] r := by simp only [evs, wp_ok, wp_ex, wp_bad]
theorem wp_evs_cons {c : CE} {es : CEs} {Q : List PyData → Ro → Prop} : Wp (evs Phi (.cons c es) r) Q E ↔ Wp (ev Phi c r) (kEs Phi es Q E) E := by
  simp only [evs, Wp.bind, Wp.sh]
  cases ev Phi c r with
  | ok s r1 => simp only [wp_ok, kSh, kEs]; (first | rfl | (simp only [wp_ok, wp_ex, wp_bad, wpf_ret, wpf_ex, wpf_bad, WpO, WpP, R.bind, R.sh, R.truth]; done) | (simp only [wp_ok, wp_ex, wp_bad, wpf_ret, wpf_ex, wpf_bad, WpO, WpP, R.bind, R.sh, R.truth]; rfl) | (simp [wp_ok, wp_ex, wp_bad, wpf_ret, wpf_ex, wpf_bad, WpO, WpP, R.bind, R.sh, R.truth, toSh]; done))
  | _ => first | rfl | (simp only [wp_ok, wp_ex, wp_bad, wpf_ret, wpf_ex, wpf_bad, WpO, WpP, R.bind, R.sh, R.truth]; done) | (simp only [wp_ok, wp_ex, wp_bad, wpf_ret, wpf_ex, wpf_bad, WpO, WpP, R.bind, R.sh, R.truth]; rfl) | (simp [wp_ok, wp_ex, wp_bad, wpf_ret, wpf_ex, wpf_bad, WpO, WpP, R.bind, R.sh, R.truth, toSh]; done)
theorem wp_rds_nil {Q : List Od → Ro → Prop} : Wp (rds Phi .nil r) Q E ↔ Q [] r := by simp only [rds, wp_ok, wp_ex, wp_bad]
theorem wp_rds_var {i : Nat} {es : CEs} {Q : List Od → Ro → Prop} : Wp (rds Phi (.cons (.var i) es) r) Q E ↔ has r i = true ∧ Wp (rds Phi es r) (kPl i Q) E := by
  simp only [rds]
  by_cases h : has r i = true
  · simp only [h, if_true, Wp.bind, true_and]; (first | rfl | (simp only [wp_ok, wp_ex, wp_bad, wpf_ret, wpf_ex, wpf_bad, WpO, WpP, R.bind, R.sh, R.truth]; done) | (simp only [wp_ok, wp_ex, wp_bad, wpf_ret, wpf_ex, wpf_bad, WpO, WpP, R.bind, R.sh, R.truth]; rfl) | (simp [wp_ok, wp_ex, wp_bad, wpf_ret, wpf_ex, wpf_bad, WpO, WpP, R.bind, R.sh, R.truth, toSh]; done))
  · simp [h, wp_ok, wp_ex, wp_bad]
theorem rds_gen {c : CE} {es : CEs} {Q : List Od → Ro → Prop} (e : rds Phi (.cons c es) r = (ev Phi c r).sh.bind fun d r1 => (rds Phi es r1).bind fun ds r2 => .ok (.da d :: ds) r2) : Wp (rds Phi (.cons c es) r) Q E ↔ Wp (ev Phi c r) (kDs Phi es Q E) E := by
  rw [e, Wp.bind, Wp.sh]
  cases ev Phi c r with
  | ok s r1 =>
    simp only [wp_ok, kSh, kDs]
    cases toSh s with
    | none => first | rfl | (simp only [wp_ok, wp_ex, wp_bad, wpf_ret, wpf_ex, wpf_bad, WpO, WpP, R.bind, R.sh, R.truth]; done) | (simp only [wp_ok, wp_ex, wp_bad, wpf_ret, wpf_ex, wpf_bad, WpO, WpP, R.bind, R.sh, R.truth]; rfl) | (simp [wp_ok, wp_ex, wp_bad, wpf_ret, wpf_ex, wpf_bad, WpO, WpP, R.bind, R.sh, R.truth, toSh]; done)
    | some d => simp only [WpO, Wp.bind]; (first | rfl | (simp only [wp_ok, wp_ex, wp_bad, wpf_ret, wpf_ex, wpf_bad, WpO, WpP, R.bind, R.sh, R.truth]; done) | (simp only [wp_ok, wp_ex, wp_bad, wpf_ret, wpf_ex, wpf_bad, WpO, WpP, R.bind, R.sh, R.truth]; rfl) | (simp [wp_ok, wp_ex, wp_bad, wpf_ret, wpf_ex, wpf_bad, WpO, WpP, R.bind, R.sh, R.truth, toSh]; done))
  | _ => first | rfl | (simp only [wp_ok, wp_ex, wp_bad, wpf_ret, wpf_ex, wpf_bad, WpO, WpP, R.bind, R.sh, R.truth]; done) | (simp only [wp_ok, wp_ex, wp_bad, wpf_ret, wpf_ex, wpf_bad, WpO, WpP, R.bind, R.sh, R.truth]; rfl) | (simp [wp_ok, wp_ex, wp_bad, wpf_ret, wpf_ex, wpf_bad, WpO, WpP, R.bind, R.sh, R.truth, toSh]; done)
theorem wp_rds_cst {d : PyData} {es : CEs} {Q : List Od → Ro → Prop} : Wp (rds Phi (.cons (.cst d) es) r) Q E ↔ Wp (rds Phi es r) (kDb d Q) E := by
  rw [rds_gen (by simp only [rds]), wp_cst]; (first | rfl | (simp only [wp_ok, wp_ex, wp_bad, wpf_ret, wpf_ex, wpf_bad, WpO, WpP, R.bind, R.sh, R.truth]; done) | (simp only [wp_ok, wp_ex, wp_bad, wpf_ret, wpf_ex, wpf_bad, WpO, WpP, R.bind, R.sh, R.truth]; rfl) | (simp [wp_ok, wp_ex, wp_bad, wpf_ret, wpf_ex, wpf_bad, WpO, WpP, R.bind, R.sh, R.truth, toSh]; done))
theorem wp_rds_glob {x : Str} {d : PyData} {es : CEs} {Q : List Od → Ro → Prop} : Wp (rds Phi (.cons (.glob x d) es) r) Q E ↔ Wp (rds Phi es r) (kDb d Q) E := by
  rw [rds_gen (by simp only [rds]), wp_glob]; (first | rfl | (simp only [wp_ok, wp_ex, wp_bad, wpf_ret, wpf_ex, wpf_bad, WpO, WpP, R.bind, R.sh, R.truth]; done) | (simp only [wp_ok, wp_ex, wp_bad, wpf_ret, wpf_ex, wpf_bad, WpO, WpP, R.bind, R.sh, R.truth]; rfl) | (simp [wp_ok, wp_ex, wp_bad, wpf_ret, wpf_ex, wpf_bad, WpO, WpP, R.bind, R.sh, R.truth, toSh]; done))
theorem wp_rds_op {o : Op} {cs es : CEs} {Q : List Od → Ro → Prop} : Wp (rds Phi (.cons (.op o cs) es) r) Q E ↔ Wp (ev Phi (.op o cs) r) (kDs Phi es Q E) E := rds_gen (by simp only [rds])
theorem wp_rds_xop {o : Op} {cs es : CEs} {Q : List Od → Ro → Prop} : Wp (rds Phi (.cons (.xop o cs) es) r) Q E ↔ Wp (ev Phi (.xop o cs) r) (kDs Phi es Q E) E := rds_gen (by simp only [rds])
theorem wp_rds_meth {o : Op} {i : Nat} {cs es : CEs} {Q : List Od → Ro → Prop} : Wp (rds Phi (.cons (.meth o i cs) es) r) Q E ↔ Wp (ev Phi (.meth o i cs) r) (kDs Phi es Q E) E := rds_gen (by simp only [rds])
theorem wp_rds_tup {cs es : CEs} {Q : List Od → Ro → Prop} : Wp (rds Phi (.cons (.tup cs) es) r) Q E ↔ Wp (ev Phi (.tup cs) r) (kDs Phi es Q E) E := rds_gen (by simp only [rds])
theorem wp_rds_lst {cs es : CEs} {Q : List Od → Ro → Prop} : Wp (rds Phi (.cons (.lst cs) es) r) Q E ↔ Wp (ev Phi (.lst cs) r) (kDs Phi es Q E) E := rds_gen (by simp only [rds])
theorem wp_rds_not {c : CE} {es : CEs} {Q : List Od → Ro → Prop} : Wp (rds Phi (.cons (.not c) es) r) Q E ↔ Wp (ev Phi (.not c) r) (kDs Phi es Q E) E := rds_gen (by simp only [rds])
theorem wp_rds_and {c d : CE} {es : CEs} {Q : List Od → Ro → Prop} : Wp (rds Phi (.cons (.and c d) es) r) Q E ↔ Wp (ev Phi (.and c d) r) (kDs Phi es Q E) E := rds_gen (by simp only [rds])
theorem wp_rds_or {c d : CE} {es : CEs} {Q : List Od → Ro → Prop} : Wp (rds Phi (.cons (.or c d) es) r) Q E ↔ Wp (ev Phi (.or c d) r) (kDs Phi es Q E) E := rds_gen (by simp only [rds])
theorem wp_rds_chain {o p : Op} {a b c : CE} {es : CEs} {Q : List Od → Ro → Prop} : Wp (rds Phi (.cons (.chain o p a b c) es) r) Q E ↔ Wp (ev Phi (.chain o p a b c) r) (kDs Phi es Q E) E := rds_gen (by simp only [rds])
theorem wp_rds_chain3 {o p q : Op} {a b c d : CE} {es : CEs} {Q : List Od → Ro → Prop} : Wp (rds Phi (.cons (.chain3 o p q a b c d) es) r) Q E ↔ Wp (ev Phi (.chain3 o p q a b c d) r) (kDs Phi es Q E) E := rds_gen (by simp only [rds])
theorem wp_rds_lc {elt : CE} {tg : CT} {it : CI} {cond : CEs} {own : List (Str × Nat)} {es : CEs} {Q : List Od → Ro → Prop} : Wp (rds Phi (.cons (.lc elt tg it cond own) es) r) Q E ↔ Wp (ev Phi (.lc elt tg it cond own) r) (kDs Phi es Q E) E := rds_gen (by simp only [rds])
theorem wp_rds_call {f : Nat} {cs es : CEs} {Q : List Od → Ro → Prop} : Wp (rds Phi (.cons (.call f cs) es) r) Q E ↔ Wp (ev Phi (.call f cs) r) (kDs Phi es Q E) E := rds_gen (by simp only [rds])
theorem wp_rds_pop {i : Nat} {c : CE} {es : CEs} {Q : List Od → Ro → Prop} : Wp (rds Phi (.cons (.pop i c) es) r) Q E ↔ Wp (ev Phi (.pop i c) r) (kDs Phi es Q E) E := rds_gen (by simp only [rds])
theorem wp_rds_shr {i : Nat} {es : CEs} {Q : List Od → Ro → Prop} : Wp (rds Phi (.cons (.shr i) es) r) Q E ↔ Wp (ev Phi (.shr i) r) (kDs Phi es Q E) E := rds_gen (by simp only [rds])
theorem wp_rds_xnew {c : Nat} {f : String} {a : CE} {es : CEs} {Q : List Od → Ro → Prop} : Wp (rds Phi (.cons (.xnew c f a) es) r) Q E ↔ Wp (ev Phi (.xnew c f a) r) (kDs Phi es Q E) E := rds_gen (by simp only [rds])
theorem wp_rds_sl2 {a lo hi : CE} {es : CEs} {Q : List Od → Ro → Prop} : Wp (rds Phi (.cons (.sl2 a lo hi) es) r) Q E ↔ Wp (ev Phi (.sl2 a lo hi) r) (kDs Phi es Q E) E := rds_gen (by simp only [rds])
theorem wp_rds_dnew {t : Bool} {es : CEs} {Q : List Od → Ro → Prop} : Wp (rds Phi (.cons (.dnew t) es) r) Q E ↔ Wp (ev Phi (.dnew t) r) (kDs Phi es Q E) E := rds_gen (by simp only [rds])
theorem wp_evA_nil {Q : List Od → Ro → Prop} : Wp (evA Phi .nil r) Q E ↔ Q [] r := by simp only [evA, wp_ok, wp_ex, wp_bad]
theorem wp_evA_ref {i : Nat} {es : CEs} {Q : List Od → Ro → Prop} : Wp (evA Phi (.cons (.ref i) es) r) Q E ↔ has r i = true ∧ Wp (evA Phi es r) (kPl i Q) E := by
  simp only [evA]
  by_cases h : has r i = true
  · simp only [h, if_true, Wp.bind, true_and]; (first | rfl | (simp only [wp_ok, wp_ex, wp_bad, wpf_ret, wpf_ex, wpf_bad, WpO, WpP, R.bind, R.sh, R.truth]; done) | (simp only [wp_ok, wp_ex, wp_bad, wpf_ret, wpf_ex, wpf_bad, WpO, WpP, R.bind, R.sh, R.truth]; rfl) | (simp [wp_ok, wp_ex, wp_bad, wpf_ret, wpf_ex, wpf_bad, WpO, WpP, R.bind, R.sh, R.truth, toSh]; done))
  · simp [h, wp_ok, wp_ex, wp_bad]
theorem wp_evA_own {c : CE} {es : CEs} {Q : List Od → Ro → Prop} : Wp (evA Phi (.cons (.own c) es) r) Q E ↔ Wp (ev Phi c r) (kTA Phi es Q E) E := by
  simp only [evA, Wp.bind]; (first | rfl | (simp only [wp_ok, wp_ex, wp_bad, wpf_ret, wpf_ex, wpf_bad, WpO, WpP, R.bind, R.sh, R.truth]; done) | (simp only [wp_ok, wp_ex, wp_bad, wpf_ret, wpf_ex, wpf_bad, WpO, WpP, R.bind, R.sh, R.truth]; rfl) | (simp [wp_ok, wp_ex, wp_bad, wpf_ret, wpf_ex, wpf_bad, WpO, WpP, R.bind, R.sh, R.truth, toSh]; done))
theorem evA_gen {c : CE} {es : CEs} {Q : List Od → Ro → Prop} (e : evA Phi (.cons c es) r = (ev Phi c r).sh.bind fun d r1 => (evA Phi es r1).bind fun ds r2 => .ok (.da d :: ds) r2) : Wp (evA Phi (.cons c es) r) Q E ↔ Wp (ev Phi c r) (kDA Phi es Q E) E := by
  rw [e, Wp.bind, Wp.sh]
  cases ev Phi c r with
  | ok s r1 =>
    simp only [wp_ok, kSh, kDA]
    cases toSh s with
    | none => first | rfl | (simp only [wp_ok, wp_ex, wp_bad, wpf_ret, wpf_ex, wpf_bad, WpO, WpP, R.bind, R.sh, R.truth]; done) | (simp only [wp_ok, wp_ex, wp_bad, wpf_ret, wpf_ex, wpf_bad, WpO, WpP, R.bind, R.sh, R.truth]; rfl) | (simp [wp_ok, wp_ex, wp_bad, wpf_ret, wpf_ex, wpf_bad, WpO, WpP, R.bind, R.sh, R.truth, toSh]; done)
    | some d => simp only [WpO, Wp.bind]; (first | rfl | (simp only [wp_ok, wp_ex, wp_bad, wpf_ret, wpf_ex, wpf_bad, WpO, WpP, R.bind, R.sh, R.truth]; done) | (simp only [wp_ok, wp_ex, wp_bad, wpf_ret, wpf_ex, wpf_bad, WpO, WpP, R.bind, R.sh, R.truth]; rfl) | (simp [wp_ok, wp_ex, wp_bad, wpf_ret, wpf_ex, wpf_bad, WpO, WpP, R.bind, R.sh, R.truth, toSh]; done))
  | _ => first | rfl | (simp only [wp_ok, wp_ex, wp_bad, wpf_ret, wpf_ex, wpf_bad, WpO, WpP, R.bind, R.sh, R.truth]; done) | (simp only [wp_ok, wp_ex, wp_bad, wpf_ret, wpf_ex, wpf_bad, WpO, WpP, R.bind, R.sh, R.truth]; rfl) | (simp [wp_ok, wp_ex, wp_bad, wpf_ret, wpf_ex, wpf_bad, WpO, WpP, R.bind, R.sh, R.truth, toSh]; done)
theorem wp_evA_cst {d : PyData} {es : CEs} {Q : List Od → Ro → Prop} : Wp (evA Phi (.cons (.cst d) es) r) Q E ↔ Wp (evA Phi es r) (kDb d Q) E := by
  rw [evA_gen (by simp only [evA]), wp_cst]; (first | rfl | (simp only [wp_ok, wp_ex, wp_bad, wpf_ret, wpf_ex, wpf_bad, WpO, WpP, R.bind, R.sh, R.truth]; done) | (simp only [wp_ok, wp_ex, wp_bad, wpf_ret, wpf_ex, wpf_bad, WpO, WpP, R.bind, R.sh, R.truth]; rfl) | (simp [wp_ok, wp_ex, wp_bad, wpf_ret, wpf_ex, wpf_bad, WpO, WpP, R.bind, R.sh, R.truth, toSh]; done))
theorem wp_evA_glob {x : Str} {d : PyData} {es : CEs} {Q : List Od → Ro → Prop} : Wp (evA Phi (.cons (.glob x d) es) r) Q E ↔ Wp (evA Phi es r) (kDb d Q) E := by
  rw [evA_gen (by simp only [evA]), wp_glob]; (first | rfl | (simp only [wp_ok, wp_ex, wp_bad, wpf_ret, wpf_ex, wpf_bad, WpO, WpP, R.bind, R.sh, R.truth]; done) | (simp only [wp_ok, wp_ex, wp_bad, wpf_ret, wpf_ex, wpf_bad, WpO, WpP, R.bind, R.sh, R.truth]; rfl) | (simp [wp_ok, wp_ex, wp_bad, wpf_ret, wpf_ex, wpf_bad, WpO, WpP, R.bind, R.sh, R.truth, toSh]; done))
theorem wp_evA_var {i : Nat} {es : CEs} {Q : List Od → Ro → Prop} : Wp (evA Phi (.cons (.var i) es) r) Q E ↔ Wp (ev Phi (.var i) r) (kDA Phi es Q E) E := evA_gen (by simp only [evA])
theorem wp_evA_op {o : Op} {cs es : CEs} {Q : List Od → Ro → Prop} : Wp (evA Phi (.cons (.op o cs) es) r) Q E ↔ Wp (ev Phi (.op o cs) r) (kDA Phi es Q E) E := evA_gen (by simp only [evA])
theorem wp_evA_xop {o : Op} {cs es : CEs} {Q : List Od → Ro → Prop} : Wp (evA Phi (.cons (.xop o cs) es) r) Q E ↔ Wp (ev Phi (.xop o cs) r) (kDA Phi es Q E) E := evA_gen (by simp only [evA])
theorem wp_evA_meth {o : Op} {i : Nat} {cs es : CEs} {Q : List Od → Ro → Prop} : Wp (evA Phi (.cons (.meth o i cs) es) r) Q E ↔ Wp (ev Phi (.meth o i cs) r) (kDA Phi es Q E) E := evA_gen (by simp only [evA])
theorem wp_evA_tup {cs es : CEs} {Q : List Od → Ro → Prop} : Wp (evA Phi (.cons (.tup cs) es) r) Q E ↔ Wp (ev Phi (.tup cs) r) (kDA Phi es Q E) E := evA_gen (by simp only [evA])
theorem wp_evA_lst {cs es : CEs} {Q : List Od → Ro → Prop} : Wp (evA Phi (.cons (.lst cs) es) r) Q E ↔ Wp (ev Phi (.lst cs) r) (kDA Phi es Q E) E := evA_gen (by simp only [evA])
theorem wp_evA_lc {elt : CE} {tg : CT} {it : CI} {cond : CEs} {own : List (Str × Nat)} {es : CEs} {Q : List Od → Ro → Prop} : Wp (evA Phi (.cons (.lc elt tg it cond own) es) r) Q E ↔ Wp (ev Phi (.lc elt tg it cond own) r) (kDA Phi es Q E) E := evA_gen (by simp only [evA])
theorem wp_evA_call {f : Nat} {cs es : CEs} {Q : List Od → Ro → Prop} : Wp (evA Phi (.cons (.call f cs) es) r) Q E ↔ Wp (ev Phi (.call f cs) r) (kDA Phi es Q E) E := evA_gen (by simp only [evA])
theorem wp_evA_not {c : CE} {es : CEs} {Q : List Od → Ro → Prop} : Wp (evA Phi (.cons (.not c) es) r) Q E ↔ Wp (ev Phi (.not c) r) (kDA Phi es Q E) E := evA_gen (by simp only [evA])
theorem wp_evA_and {c d : CE} {es : CEs} {Q : List Od → Ro → Prop} : Wp (evA Phi (.cons (.and c d) es) r) Q E ↔ Wp (ev Phi (.and c d) r) (kDA Phi es Q E) E := evA_gen (by simp only [evA])
theorem wp_evA_or {c d : CE} {es : CEs} {Q : List Od → Ro → Prop} : Wp (evA Phi (.cons (.or c d) es) r) Q E ↔ Wp (ev Phi (.or c d) r) (kDA Phi es Q E) E := evA_gen (by simp only [evA])
theorem wp_evA_sl2 {a lo hi : CE} {es : CEs} {Q : List Od → Ro → Prop} : Wp (evA Phi (.cons (.sl2 a lo hi) es) r) Q E ↔ Wp (ev Phi (.sl2 a lo hi) r) (kDA Phi es Q E) E := evA_gen (by simp only [evA])
theorem wp_evA_dnew {t : Bool} {es : CEs} {Q : List Od → Ro → Prop} : Wp (evA Phi (.cons (.dnew t) es) r) Q E ↔ Wp (ev Phi (.dnew t) r) (kDA Phi es Q E) E := evA_gen (by simp only [evA])
theorem wp_evA_pop {i : Nat} {c : CE} {es : CEs} {Q : List Od → Ro → Prop} : Wp (evA Phi (.cons (.pop i c) es) r) Q E ↔ Wp (ev Phi (.pop i c) r) (kDA Phi es Q E) E := evA_gen (by simp only [evA])
theorem wp_evC_nil {Q : Bool → Ro → Prop} : Wp (evC Phi .nil r) Q E ↔ Q true r := by simp only [evC, wp_ok, wp_ex, wp_bad]
theorem wp_evC_one {c : CE} {Q : Bool → Ro → Prop} : Wp (evC Phi (.cons c .nil) r) Q E ↔ Wp (ev Phi c r) (kTr Q) E := by simp only [evC, Wp.truth]
theorem wp_evI_rng1 {c : CE} {Q : List PyData × List Lk → Ro → Prop} : Wp (evI Phi (.rng1 c) r) Q E ↔ Wp (ev Phi c r) (kSh (kRng1 Q)) E := by
  simp only [evI, Wp.bind, Wp.sh]
  cases ev Phi c r with
  | ok s r1 =>
    simp only [wp_ok, kSh]
    cases toSh s with
    | none => first | rfl | (simp only [wp_ok, wp_ex, wp_bad, wpf_ret, wpf_ex, wpf_bad, WpO, WpP, R.bind, R.sh, R.truth]; done) | (simp only [wp_ok, wp_ex, wp_bad, wpf_ret, wpf_ex, wpf_bad, WpO, WpP, R.bind, R.sh, R.truth]; rfl) | (simp [wp_ok, wp_ex, wp_bad, wpf_ret, wpf_ex, wpf_bad, WpO, WpP, R.bind, R.sh, R.truth, toSh]; done)
    | some d =>
      simp only [WpO, kRng1]
      cases d with
      | int n =>
        simp only
        by_cases h : (in62 n && small n.toNat) = true
        · rw [if_pos h]; simp only [rgA, h, wp_ok, true_and]
        · rw [if_neg h]; simp only [rgA, h, wp_ok, wp_ex, wp_bad]; simp
      | _ => first | rfl | (simp only [wp_ok, wp_ex, wp_bad, wpf_ret, wpf_ex, wpf_bad, WpO, WpP, R.bind, R.sh, R.truth]; done) | (simp only [wp_ok, wp_ex, wp_bad, wpf_ret, wpf_ex, wpf_bad, WpO, WpP, R.bind, R.sh, R.truth]; rfl) | (simp [wp_ok, wp_ex, wp_bad, wpf_ret, wpf_ex, wpf_bad, WpO, WpP, R.bind, R.sh, R.truth, toSh]; done)
  | _ => first | rfl | (simp only [wp_ok, wp_ex, wp_bad, wpf_ret, wpf_ex, wpf_bad, WpO, WpP, R.bind, R.sh, R.truth]; done) | (simp only [wp_ok, wp_ex, wp_bad, wpf_ret, wpf_ex, wpf_bad, WpO, WpP, R.bind, R.sh, R.truth]; rfl) | (simp [wp_ok, wp_ex, wp_bad, wpf_ret, wpf_ex, wpf_bad, WpO, WpP, R.bind, R.sh, R.truth, toSh]; done)
theorem wp_rng3I {m n : Int} {Q : List PyData × List Lk → Ro → Prop} : Wp (rng3I (.int m) (.int n) (.int (-1)) r) Q E ↔ rgC3 m n ∧ Q (rngD m (m - n).toNat, []) r := by
  unfold rng3I rgC3
  simp only [decide_true, Bool.true_and]
  by_cases h : (in62 m && in62 n && small (m - n).toNat) = true
  · rw [if_pos h]; simp only [h, wp_ok, true_and]
  · rw [if_neg h]; simp only [h, wp_bad]; simp
theorem wp_evI_rng3 {c d f : CE} {Q : List PyData × List Lk → Ro → Prop} : Wp (evI Phi (.rng3 c d f) r) Q E ↔ Wp (ev Phi c r) (kSh (kRng3 Phi d f Q E)) E := by
  simp only [evI, Wp.bind, Wp.sh]
  try exact Iff.rfl
theorem wp_evI_rng2 {c d : CE} {Q : List PyData × List Lk → Ro → Prop} : Wp (evI Phi (.rng2 c d) r) Q E ↔ Wp (ev Phi c r) (kSh (kRng2 Phi d Q E)) E := by
  simp only [evI, Wp.bind, Wp.sh]
  cases ev Phi c r with
  | ok s r1 =>
    simp only [wp_ok, kSh]
    cases toSh s with
    | none => first | rfl | (simp only [wp_ok, wp_ex, wp_bad, wpf_ret, wpf_ex, wpf_bad, WpO, WpP, R.bind, R.sh, R.truth]; done) | (simp only [wp_ok, wp_ex, wp_bad, wpf_ret, wpf_ex, wpf_bad, WpO, WpP, R.bind, R.sh, R.truth]; rfl) | (simp [wp_ok, wp_ex, wp_bad, wpf_ret, wpf_ex, wpf_bad, WpO, WpP, R.bind, R.sh, R.truth, toSh]; done)
    | some m =>
      simp only [WpO, kRng2]
      cases ev Phi d r1 with
      | ok s2 r2 =>
        simp only [wp_ok, kSh]
        cases toSh s2 with
        | none => first | rfl | (simp only [wp_ok, wp_ex, wp_bad, wpf_ret, wpf_ex, wpf_bad, WpO, WpP, R.bind, R.sh, R.truth]; done) | (simp only [wp_ok, wp_ex, wp_bad, wpf_ret, wpf_ex, wpf_bad, WpO, WpP, R.bind, R.sh, R.truth]; rfl) | (simp [wp_ok, wp_ex, wp_bad, wpf_ret, wpf_ex, wpf_bad, WpO, WpP, R.bind, R.sh, R.truth, toSh]; done)
        | some n =>
          simp only [WpO, kRng2b]
          cases m with
          | int m =>
            cases n with
            | int n =>
              simp only
              by_cases h : (in62 m && in62 n && small (n - m).toNat) = true
              · rw [if_pos h]; simp only [rgB, h, wp_ok, true_and]
              · rw [if_neg h]; simp only [rgB, h, wp_ok, wp_ex, wp_bad]; simp
            | _ => first | rfl | (simp only [wp_ok, wp_ex, wp_bad, wpf_ret, wpf_ex, wpf_bad, WpO, WpP, R.bind, R.sh, R.truth]; done) | (simp only [wp_ok, wp_ex, wp_bad, wpf_ret, wpf_ex, wpf_bad, WpO, WpP, R.bind, R.sh, R.truth]; rfl) | (simp [wp_ok, wp_ex, wp_bad, wpf_ret, wpf_ex, wpf_bad, WpO, WpP, R.bind, R.sh, R.truth, toSh]; done)
          | _ => cases n <;> first | rfl | (simp only [wp_ok, wp_ex, wp_bad, wpf_ret, wpf_ex, wpf_bad, WpO, WpP, R.bind, R.sh, R.truth]; done) | (simp only [wp_ok, wp_ex, wp_bad, wpf_ret, wpf_ex, wpf_bad, WpO, WpP, R.bind, R.sh, R.truth]; rfl) | (simp [wp_ok, wp_ex, wp_bad, wpf_ret, wpf_ex, wpf_bad, WpO, WpP, R.bind, R.sh, R.truth, toSh]; done)
      | _ => first | rfl | (simp only [wp_ok, wp_ex, wp_bad, wpf_ret, wpf_ex, wpf_bad, WpO, WpP, R.bind, R.sh, R.truth]; done) | (simp only [wp_ok, wp_ex, wp_bad, wpf_ret, wpf_ex, wpf_bad, WpO, WpP, R.bind, R.sh, R.truth]; rfl) | (simp [wp_ok, wp_ex, wp_bad, wpf_ret, wpf_ex, wpf_bad, WpO, WpP, R.bind, R.sh, R.truth, toSh]; done)
  | _ => first | rfl | (simp only [wp_ok, wp_ex, wp_bad, wpf_ret, wpf_ex, wpf_bad, WpO, WpP, R.bind, R.sh, R.truth]; done) | (simp only [wp_ok, wp_ex, wp_bad, wpf_ret, wpf_ex, wpf_bad, WpO, WpP, R.bind, R.sh, R.truth]; rfl) | (simp [wp_ok, wp_ex, wp_bad, wpf_ret, wpf_ex, wpf_bad, WpO, WpP, R.bind, R.sh, R.truth, toSh]; done)
theorem wp_evI_prs {z : Bool} {es : CEs} {Q : List PyData × List Lk → Ro → Prop} : Wp (evI Phi (.prs z es) r) Q E ↔ Wp (rds Phi es r) (kPrs z Q) E := by
  simp only [evI, Wp.bind]
  cases rds Phi es r with
  | ok x r1 =>
    simp only [wp_ok, kPrs]
    cases lks x r1 with
    | none => first | rfl | (simp only [wp_ok, wp_ex, wp_bad, wpf_ret, wpf_ex, wpf_bad, WpO, WpP, R.bind, R.sh, R.truth]; done) | (simp only [wp_ok, wp_ex, wp_bad, wpf_ret, wpf_ex, wpf_bad, WpO, WpP, R.bind, R.sh, R.truth]; rfl) | (simp [wp_ok, wp_ex, wp_bad, wpf_ret, wpf_ex, wpf_bad, WpO, WpP, R.bind, R.sh, R.truth, toSh]; done)
    | some p =>
      obtain ⟨ds, ls, r2⟩ := p
      simp only [WpO]
      cases prsI z ds <;> first | rfl | (simp only [wp_ok, wp_ex, wp_bad, wpf_ret, wpf_ex, wpf_bad, WpO, WpP, R.bind, R.sh, R.truth]; done) | (simp only [wp_ok, wp_ex, wp_bad, wpf_ret, wpf_ex, wpf_bad, WpO, WpP, R.bind, R.sh, R.truth]; rfl) | (simp [wp_ok, wp_ex, wp_bad, wpf_ret, wpf_ex, wpf_bad, WpO, WpP, R.bind, R.sh, R.truth, toSh]; done)
  | _ => first | rfl | (simp only [wp_ok, wp_ex, wp_bad, wpf_ret, wpf_ex, wpf_bad, WpO, WpP, R.bind, R.sh, R.truth]; done) | (simp only [wp_ok, wp_ex, wp_bad, wpf_ret, wpf_ex, wpf_bad, WpO, WpP, R.bind, R.sh, R.truth]; rfl) | (simp [wp_ok, wp_ex, wp_bad, wpf_ret, wpf_ex, wpf_bad, WpO, WpP, R.bind, R.sh, R.truth, toSh]; done)
theorem wp_evI_var {i : Nat} {Q : List PyData × List Lk → Ro → Prop} : Wp (evI Phi (.seq (.var i)) r) Q E ↔ WpO (lk1 r (.pl i)) fun p => Wp (seqI p.1 p.2.1 p.2.2) Q E := by
  simp only [evI]
  cases lk1 r (.pl i) <;> first | rfl | (simp only [wp_ok, wp_ex, wp_bad, wpf_ret, wpf_ex, wpf_bad, WpO, WpP, R.bind, R.sh, R.truth]; done) | (simp only [wp_ok, wp_ex, wp_bad, wpf_ret, wpf_ex, wpf_bad, WpO, WpP, R.bind, R.sh, R.truth]; rfl) | (simp [wp_ok, wp_ex, wp_bad, wpf_ret, wpf_ex, wpf_bad, WpO, WpP, R.bind, R.sh, R.truth, toSh]; done)
theorem evI_gen {c : CE} {Q : List PyData × List Lk → Ro → Prop} (e : evI Phi (.seq c) r = (ev Phi c r).sh.bind fun d r1 => seqI d [] r1) : Wp (evI Phi (.seq c) r) Q E ↔ Wp (ev Phi c r) (kSh (kSeqI Q E)) E := by
  rw [e, Wp.bind, Wp.sh]; (first | rfl | (simp only [wp_ok, wp_ex, wp_bad, wpf_ret, wpf_ex, wpf_bad, WpO, WpP, R.bind, R.sh, R.truth]; done) | (simp only [wp_ok, wp_ex, wp_bad, wpf_ret, wpf_ex, wpf_bad, WpO, WpP, R.bind, R.sh, R.truth]; rfl) | (simp [wp_ok, wp_ex, wp_bad, wpf_ret, wpf_ex, wpf_bad, WpO, WpP, R.bind, R.sh, R.truth, toSh]; done))
theorem wp_evI_shr {i : Nat} {Q : List PyData × List Lk → Ro → Prop} : Wp (evI Phi (.seq (.shr i)) r) Q E ↔ Wp (ev Phi (.shr i) r) (kSh (kSeqI Q E)) E := evI_gen (by simp only [evI])
theorem wp_evI_op {o : Op} {es : CEs} {Q : List PyData × List Lk → Ro → Prop} : Wp (evI Phi (.seq (.op o es)) r) Q E ↔ Wp (ev Phi (.op o es) r) (kSh (kSeqI Q E)) E := evI_gen (by simp only [evI])
theorem wp_evI_xop {o : Op} {es : CEs} {Q : List PyData × List Lk → Ro → Prop} : Wp (evI Phi (.seq (.xop o es)) r) Q E ↔ Wp (ev Phi (.xop o es) r) (kSh (kSeqI Q E)) E := evI_gen (by simp only [evI])
theorem wp_evI_lst {es : CEs} {Q : List PyData × List Lk → Ro → Prop} : Wp (evI Phi (.seq (.lst es)) r) Q E ↔ Wp (ev Phi (.lst es) r) (kSh (kSeqI Q E)) E := evI_gen (by simp only [evI])
theorem wp_evI_tup {es : CEs} {Q : List PyData × List Lk → Ro → Prop} : Wp (evI Phi (.seq (.tup es)) r) Q E ↔ Wp (ev Phi (.tup es) r) (kSh (kSeqI Q E)) E := evI_gen (by simp only [evI])
theorem wp_evI_call {f : Nat} {es : CEs} {Q : List PyData × List Lk → Ro → Prop} : Wp (evI Phi (.seq (.call f es)) r) Q E ↔ Wp (ev Phi (.call f es) r) (kSh (kSeqI Q E)) E := evI_gen (by simp only [evI])
theorem wp_evI_sl2 {a lo hi : CE} {Q : List PyData × List Lk → Ro → Prop} : Wp (evI Phi (.seq (.sl2 a lo hi)) r) Q E ↔ Wp (ev Phi (.sl2 a lo hi) r) (kSh (kSeqI Q E)) E := evI_gen (by simp only [evI])
theorem wp_evI_lc {elt : CE} {tg : CT} {it : CI} {cond : CEs} {own : List (Str × Nat)} {Q : List PyData × List Lk → Ro → Prop} : Wp (evI Phi (.seq (.lc elt tg it cond own)) r) Q E ↔ Wp (ev Phi (.lc elt tg it cond own) r) (kSh (kSeqI Q E)) E := evI_gen (by simp only [evI])
end

section
variable (fu : Nat) (Phi : Nat → Ro → FR)
def kSeq (ss : CSs) (Q : Fl → Ro → Prop) (E : XP) (f : Fl) (r : Ro) : Prop := match f with
  | .nx => Wp (exs fu Phi ss r) Q E
  | .ret s => Q (.ret s) r
def kSet (i : Nat) (Q : Fl → Ro → Prop) (s : Slot) (r : Ro) : Prop := WpO (asgN i s r) (Q .nx)
def kAsg (t : CT) (Q : Fl → Ro → Prop) (d : PyData) (r : Ro) : Prop := WpO (asg t d r) (Q .nx)
def kAug (i : Nat) (o : Op) (x : PyData) (Q : Fl → Ro → Prop) (y : PyData) (r : Ro) : Prop := WpP (prim o [x, y]) r (kSet i Q)
def kIte (a b : CSs) (Q : Fl → Ro → Prop) (E : XP) (x : Bool) (r : Ro) : Prop := (x = true → Wp (exs fu Phi a r) Q E) ∧ (x = false → Wp (exs fu Phi b r) Q E)
def forStep (t : CT) (b : CSs) (d : PyData) (q : Ro) : R Fl := match asg t d q with
  | some q1 => exs fu Phi b q1
  | none => .bad
def kFor2 (ls : List Lk) (Q : Fl → Ro → Prop) (f : Fl) (r : Ro) : Prop := Q f (unlks ls r)
def kFor (t : CT) (b : CSs) (Q : Fl → Ro → Prop) (E : XP) (x : List PyData × List Lk) (r : Ro) : Prop := Wp (turns (forStep fu Phi t b) x.1 r) (kFor2 x.2 Q) E
def kRet (Q : Fl → Ro → Prop) (s : Slot) (r : Ro) : Prop := Q (.ret s) r
def kDrop (Q : Fl → Ro → Prop) (s : Slot) (r : Ro) : Prop := Q .nx r
def llAt (r : Ro) (i : Nat) : Option (List (List PyData)) := match r[i]? with
  | some (.ll false dss) => some dss
  | _ => none
def kApL2 (i : Nat) (dss : List (List PyData)) (j : Nat) (Q : Fl → Ro → Prop) (y : PyData) (r : Ro) : Prop := (dss.getD j []).length < 16777216 ∧ Q .nx (r.set i (.ll false (dss.set j (dss.getD j [] ++ [y]))))
def kApL1 (i : Nat) (c : CE) (dss : List (List PyData)) (Q : Fl → Ro → Prop) (E : XP) (z : PyData) (r : Ro) : Prop := match z with
  | .int n => WpO (ixN dss.length n) fun j => Wp (ev Phi c r) (kSh (kApL2 i dss j Q)) E
  | _ => False
def kApp (i : Nat) (Q : Fl → Ro → Prop) (y : PyData) (r : Ro) : Prop := match r[i]? with
  | some (.lst ds) => ds.length < 16777216 ∧ Q .nx (r.set i (.lst (ds ++ [y])))
  | _ => False
def kExt (i : Nat) (Q : Fl → Ro → Prop) (y : PyData) (r : Ro) : Prop := match r[i]?, y with
  | some (.lst ds), .list ys => small (ds.length + ys.length) = true ∧ Q .nx (r.set i (.lst (ds ++ ys)))
  | _, _ => False
def kSetL (i : Nat) (y : PyData) (Q : Fl → Ro → Prop) (z : PyData) (r : Ro) : Prop := match z, r[i]? with
  | .int n, some (.lst ds) => WpO (ixN ds.length n) fun j => Q .nx (r.set i (.lst (ds.set j y)))
  | _, _ => False
def kSetD (i : Nat) (y : PyData) (Q : Fl → Ro → Prop) (z : PyData) (r : Ro) : Prop := match r[i]? with
  | some (.dct t kvs) => (isKey t z = true ∧ kvs.length < 16777216) ∧ Q .nx (r.set i (.dct t (putD z y kvs)))
  | _ => False
def kSetI (i : Nat) (k : CE) (Q : Fl → Ro → Prop) (E : XP) (y : PyData) (r : Ro) : Prop := match r[i]? with
  | some (.lst _) => Wp (ev Phi k r) (kSh (kSetL i y Q)) E
  | some (.dct _ _) => Wp (ev Phi k r) (kSh (kSetD i y Q)) E
  | _ => False
def kMove (i j : Nat) (Q : Fl → Ro → Prop) (r : Ro) : Prop := match r[j]? with
  | some (.lst ds) => WpO (asgN i (.lst ds) (r.set j .non)) (Q .nx)
  | some (.dct t kvs) => WpO (asgN i (.dct t kvs) (r.set j .non)) (Q .nx)
  | some (.sh d) => WpO (asgN i (.sh d) r) (Q .nx)
  | _ => False
def kRetV (i : Nat) (Q : Fl → Ro → Prop) (r : Ro) : Prop := match r[i]? with
  | some (.sh d) => Q (.ret (.sh d)) r
  | some (.lst ds) => Q (.ret (.lst ds)) (r.set i .non)
  | some (.dct t kvs) => Q (.ret (.dct t kvs)) (r.set i .non)
  | some (.obj c fs) => Q (.ret (.obj c fs)) (r.set i .non)
  | _ => False
def intAtR (r : Ro) (i : Nat) : Option Int := match r[i]? with
  | some (.sh (.int x)) => some x
  | _ => none
def kRaise (c : Nat) (f : String) (E : XP) (d : PyData) (r : Ro) : Prop := E c [(.str (Str.ofString f), d)] r
def eTry (cs : List Nat) (i x : Nat) (Q : Fl → Ro → Prop) (E : XP) (c : Nat) (fs : List (PyData × PyData)) (r : Ro) : Prop := (c ∈ cs → i < r.length ∧ WpO (asgN x (.sh (excD c fs)) (r.set i .non)) (Q .nx)) ∧ (c ∉ cs → E c fs r)
end
section
variable {fu : Nat} {Phi : Nat → Ro → FR} {Q : Fl → Ro → Prop} {E : XP} {r : Ro}
theorem wp_exs_nil : Wp (exs fu Phi .nil r) Q E ↔ Q .nx r := by simp only [exs, wp_ok]
theorem wp_exs_cons {s : CS} {ss : CSs} : Wp (exs fu Phi (.cons s ss) r) Q E ↔ Wp (ex fu Phi s r) (kSeq fu Phi ss Q E) E := by
  simp only [exs]
  cases ex fu Phi s r with
  | ok f r1 => cases f <;> first | rfl | (simp only [wp_ok, wp_ex, wp_bad, wpf_ret, wpf_ex, wpf_bad, WpO, WpP, R.bind, R.sh, R.truth]; done) | (simp only [wp_ok, wp_ex, wp_bad, wpf_ret, wpf_ex, wpf_bad, WpO, WpP, R.bind, R.sh, R.truth]; rfl) | (simp [wp_ok, wp_ex, wp_bad, wpf_ret, wpf_ex, wpf_bad, WpO, WpP, R.bind, R.sh, R.truth, toSh]; done)
  | _ => first | rfl | (simp only [wp_ok, wp_ex, wp_bad, wpf_ret, wpf_ex, wpf_bad, WpO, WpP, R.bind, R.sh, R.truth]; done) | (simp only [wp_ok, wp_ex, wp_bad, wpf_ret, wpf_ex, wpf_bad, WpO, WpP, R.bind, R.sh, R.truth]; rfl) | (simp [wp_ok, wp_ex, wp_bad, wpf_ret, wpf_ex, wpf_bad, WpO, WpP, R.bind, R.sh, R.truth, toSh]; done)
theorem kSeq_nx {ss : CSs} : kSeq fu Phi ss Q E .nx r ↔ Wp (exs fu Phi ss r) Q E := Iff.rfl
theorem kSeq_ret {ss : CSs} {s : Slot} : kSeq fu Phi ss Q E (.ret s) r ↔ Q (.ret s) r := Iff.rfl
theorem asgN_of {x : R Slot} {i : Nat} : Wp (x.bind fun s r1 => match asgN i s r1 with | some r2 => .ok .nx r2 | none => .bad) Q E ↔ Wp x (kSet i Q) E := by
  rw [Wp.bind]
  cases x with
  | ok s r1 =>
    simp only [wp_ok, kSet]
    cases asgN i s r1 <;> first | rfl | (simp only [wp_ok, wp_ex, wp_bad, wpf_ret, wpf_ex, wpf_bad, WpO, WpP, R.bind, R.sh, R.truth]; done) | (simp only [wp_ok, wp_ex, wp_bad, wpf_ret, wpf_ex, wpf_bad, WpO, WpP, R.bind, R.sh, R.truth]; rfl) | (simp [wp_ok, wp_ex, wp_bad, wpf_ret, wpf_ex, wpf_bad, WpO, WpP, R.bind, R.sh, R.truth, toSh]; done)
  | _ => first | rfl | (simp only [wp_ok, wp_ex, wp_bad, wpf_ret, wpf_ex, wpf_bad, WpO, WpP, R.bind, R.sh, R.truth]; done) | (simp only [wp_ok, wp_ex, wp_bad, wpf_ret, wpf_ex, wpf_bad, WpO, WpP, R.bind, R.sh, R.truth]; rfl) | (simp [wp_ok, wp_ex, wp_bad, wpf_ret, wpf_ex, wpf_bad, WpO, WpP, R.bind, R.sh, R.truth, toSh]; done)
theorem wp_set {i : Nat} {c : CE} : Wp (ex fu Phi (.set (.name i) c) r) Q E ↔ Wp (ev Phi c r) (kSet i Q) E := by simp only [ex]; exact asgN_of
theorem wp_setLc {i : Nat} {c : CE} : Wp (ex fu Phi (.setLc i c) r) Q E ↔ Wp (ev Phi c r) (kSet i Q) E := by simp only [ex]; exact asgN_of
theorem wp_setT {ts : CTs} {c : CE} : Wp (ex fu Phi (.set (.tup ts) c) r) Q E ↔ Wp (ev Phi c r) (kSh (kAsg (.tup ts) Q)) E := by
  simp only [ex, Wp.bind, Wp.sh]
  cases ev Phi c r with
  | ok s r1 =>
    simp only [wp_ok, kSh]
    cases toSh s with
    | none => first | rfl | (simp only [wp_ok, wp_ex, wp_bad, wpf_ret, wpf_ex, wpf_bad, WpO, WpP, R.bind, R.sh, R.truth]; done) | (simp only [wp_ok, wp_ex, wp_bad, wpf_ret, wpf_ex, wpf_bad, WpO, WpP, R.bind, R.sh, R.truth]; rfl) | (simp [wp_ok, wp_ex, wp_bad, wpf_ret, wpf_ex, wpf_bad, WpO, WpP, R.bind, R.sh, R.truth, toSh]; done)
    | some d =>
      simp only [WpO, kAsg]
      cases asg (.tup ts) d r1 <;> first | rfl | (simp only [wp_ok, wp_ex, wp_bad, wpf_ret, wpf_ex, wpf_bad, WpO, WpP, R.bind, R.sh, R.truth]; done) | (simp only [wp_ok, wp_ex, wp_bad, wpf_ret, wpf_ex, wpf_bad, WpO, WpP, R.bind, R.sh, R.truth]; rfl) | (simp [wp_ok, wp_ex, wp_bad, wpf_ret, wpf_ex, wpf_bad, WpO, WpP, R.bind, R.sh, R.truth, toSh]; done)
  | _ => first | rfl | (simp only [wp_ok, wp_ex, wp_bad, wpf_ret, wpf_ex, wpf_bad, WpO, WpP, R.bind, R.sh, R.truth]; done) | (simp only [wp_ok, wp_ex, wp_bad, wpf_ret, wpf_ex, wpf_bad, WpO, WpP, R.bind, R.sh, R.truth]; rfl) | (simp [wp_ok, wp_ex, wp_bad, wpf_ret, wpf_ex, wpf_bad, WpO, WpP, R.bind, R.sh, R.truth, toSh]; done)
theorem wp_move {i j : Nat} : Wp (ex fu Phi (.move i j) r) Q E ↔ kMove i j Q r := by
  simp only [ex, kMove]
  cases r[j]? with
  | none => first | rfl | (simp only [wp_ok, wp_ex, wp_bad, wpf_ret, wpf_ex, wpf_bad, WpO, WpP, R.bind, R.sh, R.truth]; done) | (simp only [wp_ok, wp_ex, wp_bad, wpf_ret, wpf_ex, wpf_bad, WpO, WpP, R.bind, R.sh, R.truth]; rfl) | (simp [wp_ok, wp_ex, wp_bad, wpf_ret, wpf_ex, wpf_bad, WpO, WpP, R.bind, R.sh, R.truth, toSh]; done)
  | some s =>
    cases s with
    | non => first | rfl | (simp only [wp_ok, wp_ex, wp_bad, wpf_ret, wpf_ex, wpf_bad, WpO, WpP, R.bind, R.sh, R.truth]; done) | (simp only [wp_ok, wp_ex, wp_bad, wpf_ret, wpf_ex, wpf_bad, WpO, WpP, R.bind, R.sh, R.truth]; rfl) | (simp [wp_ok, wp_ex, wp_bad, wpf_ret, wpf_ex, wpf_bad, WpO, WpP, R.bind, R.sh, R.truth, toSh]; done)
    | sh d => simp only; cases asgN i (.sh d) r <;> first | rfl | (simp only [wp_ok, wp_ex, wp_bad, wpf_ret, wpf_ex, wpf_bad, WpO, WpP, R.bind, R.sh, R.truth]; done) | (simp only [wp_ok, wp_ex, wp_bad, wpf_ret, wpf_ex, wpf_bad, WpO, WpP, R.bind, R.sh, R.truth]; rfl) | (simp [wp_ok, wp_ex, wp_bad, wpf_ret, wpf_ex, wpf_bad, WpO, WpP, R.bind, R.sh, R.truth, toSh]; done)
    | lst ds => simp only; cases asgN i (.lst ds) (r.set j .non) <;> first | rfl | (simp only [wp_ok, wp_ex, wp_bad, wpf_ret, wpf_ex, wpf_bad, WpO, WpP, R.bind, R.sh, R.truth]; done) | (simp only [wp_ok, wp_ex, wp_bad, wpf_ret, wpf_ex, wpf_bad, WpO, WpP, R.bind, R.sh, R.truth]; rfl) | (simp [wp_ok, wp_ex, wp_bad, wpf_ret, wpf_ex, wpf_bad, WpO, WpP, R.bind, R.sh, R.truth, toSh]; done)
    | dct t kvs => simp only; cases asgN i (.dct t kvs) (r.set j .non) <;> first | rfl | (simp only [wp_ok, wp_ex, wp_bad, wpf_ret, wpf_ex, wpf_bad, WpO, WpP, R.bind, R.sh, R.truth]; done) | (simp only [wp_ok, wp_ex, wp_bad, wpf_ret, wpf_ex, wpf_bad, WpO, WpP, R.bind, R.sh, R.truth]; rfl) | (simp [wp_ok, wp_ex, wp_bad, wpf_ret, wpf_ex, wpf_bad, WpO, WpP, R.bind, R.sh, R.truth, toSh]; done)
    | obj _ _ => first | rfl | (simp only [wp_ok, wp_ex, wp_bad, wpf_ret, wpf_ex, wpf_bad, WpO, WpP, R.bind, R.sh, R.truth]; done) | (simp only [wp_ok, wp_ex, wp_bad, wpf_ret, wpf_ex, wpf_bad, WpO, WpP, R.bind, R.sh, R.truth]; rfl) | (simp [wp_ok, wp_ex, wp_bad, wpf_ret, wpf_ex, wpf_bad, WpO, WpP, R.bind, R.sh, R.truth, toSh]; done)
    | rob _ _ => first | rfl | (simp only [wp_ok, wp_ex, wp_bad, wpf_ret, wpf_ex, wpf_bad, WpO, WpP, R.bind, R.sh, R.truth]; done) | (simp only [wp_ok, wp_ex, wp_bad, wpf_ret, wpf_ex, wpf_bad, WpO, WpP, R.bind, R.sh, R.truth]; rfl) | (simp [wp_ok, wp_ex, wp_bad, wpf_ret, wpf_ex, wpf_bad, WpO, WpP, R.bind, R.sh, R.truth, toSh]; done)
    | ll _ _ => first | rfl | (simp only [wp_ok, wp_ex, wp_bad, wpf_ret, wpf_ex, wpf_bad, WpO, WpP, R.bind, R.sh, R.truth]; done) | (simp only [wp_ok, wp_ex, wp_bad, wpf_ret, wpf_ex, wpf_bad, WpO, WpP, R.bind, R.sh, R.truth]; rfl) | (simp [wp_ok, wp_ex, wp_bad, wpf_ret, wpf_ex, wpf_bad, WpO, WpP, R.bind, R.sh, R.truth, toSh]; done)
    | dd _ => first | rfl | (simp only [wp_ok, wp_ex, wp_bad, wpf_ret, wpf_ex, wpf_bad, WpO, WpP, R.bind, R.sh, R.truth]; done) | (simp only [wp_ok, wp_ex, wp_bad, wpf_ret, wpf_ex, wpf_bad, WpO, WpP, R.bind, R.sh, R.truth]; rfl) | (simp [wp_ok, wp_ex, wp_bad, wpf_ret, wpf_ex, wpf_bad, WpO, WpP, R.bind, R.sh, R.truth, toSh]; done)
    | tl _ _ => first | rfl | (simp only [wp_ok, wp_ex, wp_bad, wpf_ret, wpf_ex, wpf_bad, WpO, WpP, R.bind, R.sh, R.truth]; done) | (simp only [wp_ok, wp_ex, wp_bad, wpf_ret, wpf_ex, wpf_bad, WpO, WpP, R.bind, R.sh, R.truth]; rfl) | (simp [wp_ok, wp_ex, wp_bad, wpf_ret, wpf_ex, wpf_bad, WpO, WpP, R.bind, R.sh, R.truth, toSh]; done)
theorem wp_aug {i : Nat} {o : Op} {c : CE} : Wp (ex fu Phi (.aug i o c) r) Q E ↔ WpO (intAtR r i) fun x => Wp (ev Phi c r) (kSh (kAug i o (.int x) Q)) E := by
  have hc : (∃ x, r[i]? = some (.sh (.int x))) ∨ intAtR r i = none := by
    unfold intAtR
    cases r[i]? with
    | none => exact .inr rfl
    | some s => cases s with
      | sh d => cases d <;> first | exact .inr rfl | exact .inl ⟨_, rfl⟩
      | _ => exact .inr rfl
  rcases hc with ⟨x, h⟩ | h
  case inr =>
    rw [h]
    simp only [ex, WpO]
    unfold intAtR at h
    split <;> simp_all [wp_bad]
  have h2 : intAtR r i = some x := by unfold intAtR; rw [h]
  rw [h2]
  simp only [WpO]
  simp only [ex, h, Wp.bind, Wp.sh]
  cases ev Phi c r with
  | ok s r1 =>
    simp only [wp_ok, kSh]
    cases toSh s with
    | none => first | rfl | (simp only [wp_ok, wp_ex, wp_bad, wpf_ret, wpf_ex, wpf_bad, WpO, WpP, R.bind, R.sh, R.truth]; done) | (simp only [wp_ok, wp_ex, wp_bad, wpf_ret, wpf_ex, wpf_bad, WpO, WpP, R.bind, R.sh, R.truth]; rfl) | (simp [wp_ok, wp_ex, wp_bad, wpf_ret, wpf_ex, wpf_bad, WpO, WpP, R.bind, R.sh, R.truth, toSh]; done)
    | some d =>
      simp only [WpO, kAug]
      cases prim o [.int x, d] with
      | none => first | rfl | (simp only [wp_ok, wp_ex, wp_bad, wpf_ret, wpf_ex, wpf_bad, WpO, WpP, R.bind, R.sh, R.truth]; done) | (simp only [wp_ok, wp_ex, wp_bad, wpf_ret, wpf_ex, wpf_bad, WpO, WpP, R.bind, R.sh, R.truth]; rfl) | (simp [wp_ok, wp_ex, wp_bad, wpf_ret, wpf_ex, wpf_bad, WpO, WpP, R.bind, R.sh, R.truth, toSh]; done)
      | some t =>
        simp only [WpP, kSet]
        cases asgN i t r1 <;> first | rfl | (simp only [wp_ok, wp_ex, wp_bad, wpf_ret, wpf_ex, wpf_bad, WpO, WpP, R.bind, R.sh, R.truth]; done) | (simp only [wp_ok, wp_ex, wp_bad, wpf_ret, wpf_ex, wpf_bad, WpO, WpP, R.bind, R.sh, R.truth]; rfl) | (simp [wp_ok, wp_ex, wp_bad, wpf_ret, wpf_ex, wpf_bad, WpO, WpP, R.bind, R.sh, R.truth, toSh]; done)
  | _ => first | rfl | (simp only [wp_ok, wp_ex, wp_bad, wpf_ret, wpf_ex, wpf_bad, WpO, WpP, R.bind, R.sh, R.truth]; done) | (simp only [wp_ok, wp_ex, wp_bad, wpf_ret, wpf_ex, wpf_bad, WpO, WpP, R.bind, R.sh, R.truth]; rfl) | (simp [wp_ok, wp_ex, wp_bad, wpf_ret, wpf_ex, wpf_bad, WpO, WpP, R.bind, R.sh, R.truth, toSh]; done)
theorem wp_ite {c : CE} {a b : CSs} : Wp (ex fu Phi (.ite c a b) r) Q E ↔ Wp (ev Phi c r) (kTr (kIte fu Phi a b Q E)) E := by
  simp only [ex, Wp.bind, Wp.truth]
  cases ev Phi c r with
  | ok s r1 =>
    simp only [wp_ok, kTr]
    cases s with
    | sh x => cases x with
      | bool b => cases b <;> simp [kAnd, kOr, kIte, wp_ok, wp_ex, wp_bad]
      | _ => first | rfl | (simp only [wp_ok, wp_ex, wp_bad, wpf_ret, wpf_ex, wpf_bad, WpO, WpP, R.bind, R.sh, R.truth]; done) | (simp only [wp_ok, wp_ex, wp_bad, wpf_ret, wpf_ex, wpf_bad, WpO, WpP, R.bind, R.sh, R.truth]; rfl) | (simp [wp_ok, wp_ex, wp_bad, wpf_ret, wpf_ex, wpf_bad, WpO, WpP, R.bind, R.sh, R.truth, toSh]; done)
    | _ => first | rfl | (simp only [wp_ok, wp_ex, wp_bad, wpf_ret, wpf_ex, wpf_bad, WpO, WpP, R.bind, R.sh, R.truth]; done) | (simp only [wp_ok, wp_ex, wp_bad, wpf_ret, wpf_ex, wpf_bad, WpO, WpP, R.bind, R.sh, R.truth]; rfl) | (simp [wp_ok, wp_ex, wp_bad, wpf_ret, wpf_ex, wpf_bad, WpO, WpP, R.bind, R.sh, R.truth, toSh]; done)
  | _ => first | rfl | (simp only [wp_ok, wp_ex, wp_bad, wpf_ret, wpf_ex, wpf_bad, WpO, WpP, R.bind, R.sh, R.truth]; done) | (simp only [wp_ok, wp_ex, wp_bad, wpf_ret, wpf_ex, wpf_bad, WpO, WpP, R.bind, R.sh, R.truth]; rfl) | (simp [wp_ok, wp_ex, wp_bad, wpf_ret, wpf_ex, wpf_bad, WpO, WpP, R.bind, R.sh, R.truth, toSh]; done)
theorem wp_for {t : CT} {it : CI} {b : CSs} : Wp (ex fu Phi (.for_ t it b) r) Q E ↔ Wp (evI Phi it r) (kFor fu Phi t b Q E) E := by
  simp only [ex, Wp.bind]; (first | rfl | (simp only [wp_ok, wp_ex, wp_bad, wpf_ret, wpf_ex, wpf_bad, WpO, WpP, R.bind, R.sh, R.truth]; done) | (simp only [wp_ok, wp_ex, wp_bad, wpf_ret, wpf_ex, wpf_bad, WpO, WpP, R.bind, R.sh, R.truth]; rfl) | (simp [wp_ok, wp_ex, wp_bad, wpf_ret, wpf_ex, wpf_bad, WpO, WpP, R.bind, R.sh, R.truth, toSh]; done))
def kForD2 (i : Nat) (kvs : List (PyData × PyData)) (Q : Fl → Ro → Prop) (f : Fl) (q : Ro) : Prop := Q f (q.set i (.dct true kvs))
theorem wp_while {c : CE} {b : CSs} : Wp (ex fu Phi (.while_ c b) r) Q E ↔ Wp (loop (fun q => (ev Phi c q).truth) (fun q => exs fu Phi b q) fu r) Q E := by
  simp only [ex]
theorem wp_retV {i : Nat} : Wp (ex fu Phi (.ret (.var i)) r) Q E ↔ kRetV i Q r := by
  simp only [ex, kRetV]
  cases r[i]? with
  | none => first | rfl | (simp only [wp_ok, wp_ex, wp_bad, wpf_ret, wpf_ex, wpf_bad, WpO, WpP, R.bind, R.sh, R.truth]; done) | (simp only [wp_ok, wp_ex, wp_bad, wpf_ret, wpf_ex, wpf_bad, WpO, WpP, R.bind, R.sh, R.truth]; rfl) | (simp [wp_ok, wp_ex, wp_bad, wpf_ret, wpf_ex, wpf_bad, WpO, WpP, R.bind, R.sh, R.truth, toSh]; done)
  | some s => cases s <;> first | rfl | (simp only [wp_ok, wp_ex, wp_bad, wpf_ret, wpf_ex, wpf_bad, WpO, WpP, R.bind, R.sh, R.truth]; done) | (simp only [wp_ok, wp_ex, wp_bad, wpf_ret, wpf_ex, wpf_bad, WpO, WpP, R.bind, R.sh, R.truth]; rfl) | (simp [wp_ok, wp_ex, wp_bad, wpf_ret, wpf_ex, wpf_bad, WpO, WpP, R.bind, R.sh, R.truth, toSh]; done)
theorem ret_gen {c : CE} (e : ex fu Phi (.ret c) r = (ev Phi c r).bind fun s r1 => .ok (.ret s) r1) : Wp (ex fu Phi (.ret c) r) Q E ↔ Wp (ev Phi c r) (kRet Q) E := by rw [e, Wp.bind]; (first | rfl | (simp only [wp_ok, wp_ex, wp_bad, wpf_ret, wpf_ex, wpf_bad, WpO, WpP, R.bind, R.sh, R.truth]; done) | (simp only [wp_ok, wp_ex, wp_bad, wpf_ret, wpf_ex, wpf_bad, WpO, WpP, R.bind, R.sh, R.truth]; rfl) | (simp [wp_ok, wp_ex, wp_bad, wpf_ret, wpf_ex, wpf_bad, WpO, WpP, R.bind, R.sh, R.truth, toSh]; done))
theorem wp_ret_cst {d : PyData} : Wp (ex fu Phi (.ret (.cst d)) r) Q E ↔ Q (.ret (.sh d)) r := by simp only [ex, ev, R.bind, wp_ok, wp_ex, wp_bad]
theorem wp_ret_op {o : Op} {es : CEs} : Wp (ex fu Phi (.ret (.op o es)) r) Q E ↔ Wp (ev Phi (.op o es) r) (kRet Q) E := ret_gen (by simp only [ex])
theorem wp_ret_xop {o : Op} {es : CEs} : Wp (ex fu Phi (.ret (.xop o es)) r) Q E ↔ Wp (ev Phi (.xop o es) r) (kRet Q) E := ret_gen (by simp only [ex])
theorem wp_ret_meth {o : Op} {i : Nat} {es : CEs} : Wp (ex fu Phi (.ret (.meth o i es)) r) Q E ↔ Wp (ev Phi (.meth o i es) r) (kRet Q) E := ret_gen (by simp only [ex])
theorem wp_ret_tup {es : CEs} : Wp (ex fu Phi (.ret (.tup es)) r) Q E ↔ Wp (ev Phi (.tup es) r) (kRet Q) E := ret_gen (by simp only [ex])
theorem wp_ret_lst {es : CEs} : Wp (ex fu Phi (.ret (.lst es)) r) Q E ↔ Wp (ev Phi (.lst es) r) (kRet Q) E := ret_gen (by simp only [ex])
theorem wp_ret_not {c : CE} : Wp (ex fu Phi (.ret (.not c)) r) Q E ↔ Wp (ev Phi (.not c) r) (kRet Q) E := ret_gen (by simp only [ex])
theorem wp_ret_and {c d : CE} : Wp (ex fu Phi (.ret (.and c d)) r) Q E ↔ Wp (ev Phi (.and c d) r) (kRet Q) E := ret_gen (by simp only [ex])
theorem wp_ret_or {c d : CE} : Wp (ex fu Phi (.ret (.or c d)) r) Q E ↔ Wp (ev Phi (.or c d) r) (kRet Q) E := ret_gen (by simp only [ex])
theorem wp_ret_chain {o p : Op} {a b c : CE} : Wp (ex fu Phi (.ret (.chain o p a b c)) r) Q E ↔ Wp (ev Phi (.chain o p a b c) r) (kRet Q) E := ret_gen (by simp only [ex])
theorem wp_ret_chain3 {o p q : Op} {a b c d : CE} : Wp (ex fu Phi (.ret (.chain3 o p q a b c d)) r) Q E ↔ Wp (ev Phi (.chain3 o p q a b c d) r) (kRet Q) E := ret_gen (by simp only [ex])
theorem wp_ret_lc {elt : CE} {tg : CT} {it : CI} {cond : CEs} {own : List (Str × Nat)} : Wp (ex fu Phi (.ret (.lc elt tg it cond own)) r) Q E ↔ Wp (ev Phi (.lc elt tg it cond own) r) (kRet Q) E := ret_gen (by simp only [ex])
theorem wp_ret_call {f : Nat} {es : CEs} : Wp (ex fu Phi (.ret (.call f es)) r) Q E ↔ Wp (ev Phi (.call f es) r) (kRet Q) E := ret_gen (by simp only [ex])
theorem wp_ret_pop {i : Nat} {c : CE} : Wp (ex fu Phi (.ret (.pop i c)) r) Q E ↔ Wp (ev Phi (.pop i c) r) (kRet Q) E := ret_gen (by simp only [ex])
theorem wp_ret_sl2 {a lo hi : CE} : Wp (ex fu Phi (.ret (.sl2 a lo hi)) r) Q E ↔ Wp (ev Phi (.sl2 a lo hi) r) (kRet Q) E := ret_gen (by simp only [ex])
theorem wp_ret_dnew {t : Bool} : Wp (ex fu Phi (.ret (.dnew t)) r) Q E ↔ Q (.ret (.dct t [])) r := by simp only [ex, ev, R.bind, wp_ok, wp_ex, wp_bad]
theorem wp_expr {c : CE} : Wp (ex fu Phi (.expr c) r) Q E ↔ Wp (ev Phi c r) (kDrop Q) E := by simp only [ex, Wp.bind]; (first | rfl | (simp only [wp_ok, wp_ex, wp_bad, wpf_ret, wpf_ex, wpf_bad, WpO, WpP, R.bind, R.sh, R.truth]; done) | (simp only [wp_ok, wp_ex, wp_bad, wpf_ret, wpf_ex, wpf_bad, WpO, WpP, R.bind, R.sh, R.truth]; rfl) | (simp [wp_ok, wp_ex, wp_bad, wpf_ret, wpf_ex, wpf_bad, WpO, WpP, R.bind, R.sh, R.truth, toSh]; done))
theorem wp_appL {i : Nat} {k c : CE} : Wp (ex fu Phi (.appL i k c) r) Q E ↔ WpO (llAt r i) fun dss => Wp (ev Phi k (r.set i .non)) (kSh (kApL1 Phi i c dss Q E)) E := by
  cases h : llAt r i with
  | none =>
    simp only [ex, WpO]
    unfold llAt at h
    split <;> simp_all [wp_bad]
  | some dss =>
    have e : r[i]? = some (.ll false dss) := by
      unfold llAt at h
      split at h
      · cases h; assumption
      · cases h
    simp only [ex, e, WpO, Wp.bind, Wp.sh]
    cases ev Phi k (r.set i .non) with
    | ok s r1 =>
      simp only [wp_ok, kSh]
      cases toSh s with
      | none => simp only [WpO]
      | some z =>
        simp only [WpO, kApL1]
        cases z with
        | int n =>
          simp only
          cases ixN dss.length n with
          | none => simp only [wp_bad, WpO]
          | some j =>
            simp only [WpO, Wp.bind, Wp.sh]
            cases ev Phi c r1 with
            | ok s2 r2 =>
              simp only [wp_ok, kSh]
              cases toSh s2 with
              | none => simp only [WpO]
              | some y =>
                simp only [WpO, kApL2]
                by_cases hl : (dss.getD j []).length < 16777216
                · simp only [hl, decide_true, if_true, wp_ok, true_and]
                · simp only [hl, decide_false, Bool.false_eq_true, if_false, wp_bad, false_and]
            | ex c fs r2 => simp only [wp_ex]
            | bad => simp only [wp_bad]
        | _ => simp only [wp_bad]
    | ex c fs r1 => simp only [wp_ex]
    | bad => simp only [wp_bad]
theorem wp_append {i : Nat} {c : CE} : Wp (ex fu Phi (.append i c) r) Q E ↔ isLs r i = true ∧ Wp (ev Phi c r) (kSh (kApp i Q)) E := by
  rcases isL_cases r i with ⟨ds, h⟩ | h
  case inr =>
    simp only [h, Bool.false_eq_true, false_and, iff_false]
    simp only [ex]
    unfold isLs at h
    split <;> simp_all [wp_bad]
  have h2 : isLs r i = true := by unfold isLs; rw [h]
  simp only [h2, true_and]
  simp only [ex, h, Wp.bind, Wp.sh]
  cases ev Phi c r with
  | ok s r1 =>
    simp only [wp_ok, kSh]
    cases toSh s with
    | none => first | rfl | (simp only [wp_ok, wp_ex, wp_bad, wpf_ret, wpf_ex, wpf_bad, WpO, WpP, R.bind, R.sh, R.truth]; done) | (simp only [wp_ok, wp_ex, wp_bad, wpf_ret, wpf_ex, wpf_bad, WpO, WpP, R.bind, R.sh, R.truth]; rfl) | (simp [wp_ok, wp_ex, wp_bad, wpf_ret, wpf_ex, wpf_bad, WpO, WpP, R.bind, R.sh, R.truth, toSh]; done)
    | some d =>
      simp only [WpO, kApp]
      cases r1[i]? with
      | none => first | rfl | (simp only [wp_ok, wp_ex, wp_bad, wpf_ret, wpf_ex, wpf_bad, WpO, WpP, R.bind, R.sh, R.truth]; done) | (simp only [wp_ok, wp_ex, wp_bad, wpf_ret, wpf_ex, wpf_bad, WpO, WpP, R.bind, R.sh, R.truth]; rfl) | (simp [wp_ok, wp_ex, wp_bad, wpf_ret, wpf_ex, wpf_bad, WpO, WpP, R.bind, R.sh, R.truth, toSh]; done)
      | some t => cases t with
        | lst es =>
          simp only
          by_cases hl : es.length < 16777216
          · simp [hl, wp_ok, wp_ex, wp_bad]
          · simp [hl, wp_ok, wp_ex, wp_bad]
        | _ => first | rfl | (simp only [wp_ok, wp_ex, wp_bad, wpf_ret, wpf_ex, wpf_bad, WpO, WpP, R.bind, R.sh, R.truth]; done) | (simp only [wp_ok, wp_ex, wp_bad, wpf_ret, wpf_ex, wpf_bad, WpO, WpP, R.bind, R.sh, R.truth]; rfl) | (simp [wp_ok, wp_ex, wp_bad, wpf_ret, wpf_ex, wpf_bad, WpO, WpP, R.bind, R.sh, R.truth, toSh]; done)
  | _ => first | rfl | (simp only [wp_ok, wp_ex, wp_bad, wpf_ret, wpf_ex, wpf_bad, WpO, WpP, R.bind, R.sh, R.truth]; done) | (simp only [wp_ok, wp_ex, wp_bad, wpf_ret, wpf_ex, wpf_bad, WpO, WpP, R.bind, R.sh, R.truth]; rfl) | (simp [wp_ok, wp_ex, wp_bad, wpf_ret, wpf_ex, wpf_bad, WpO, WpP, R.bind, R.sh, R.truth, toSh]; done)
theorem wp_extend {i : Nat} {c : CE} : Wp (ex fu Phi (.extend i c) r) Q E ↔ isLs r i = true ∧ Wp (ev Phi c r) (kSh (kExt i Q)) E := by
  rcases isL_cases r i with ⟨ds, h⟩ | h
  case inr =>
    simp only [h, Bool.false_eq_true, false_and, iff_false]
    simp only [ex]
    unfold isLs at h
    split <;> simp_all [wp_bad]
  have h2 : isLs r i = true := by unfold isLs; rw [h]
  simp only [h2, true_and]
  simp only [ex, h, Wp.bind, Wp.sh]
  cases ev Phi c r with
  | ok s r1 =>
    simp only [wp_ok, kSh]
    cases toSh s with
    | none => first | rfl | (simp only [wp_ok, wp_ex, wp_bad, wpf_ret, wpf_ex, wpf_bad, WpO, WpP, R.bind, R.sh, R.truth]; done) | (simp only [wp_ok, wp_ex, wp_bad, wpf_ret, wpf_ex, wpf_bad, WpO, WpP, R.bind, R.sh, R.truth]; rfl) | (simp [wp_ok, wp_ex, wp_bad, wpf_ret, wpf_ex, wpf_bad, WpO, WpP, R.bind, R.sh, R.truth, toSh]; done)
    | some d =>
      simp only [WpO, kExt]
      cases r1[i]? with
      | none => first | rfl | (simp only [wp_ok, wp_ex, wp_bad, wpf_ret, wpf_ex, wpf_bad, WpO, WpP, R.bind, R.sh, R.truth]; done) | (simp only [wp_ok, wp_ex, wp_bad, wpf_ret, wpf_ex, wpf_bad, WpO, WpP, R.bind, R.sh, R.truth]; rfl) | (simp [wp_ok, wp_ex, wp_bad, wpf_ret, wpf_ex, wpf_bad, WpO, WpP, R.bind, R.sh, R.truth, toSh]; done)
      | some t => cases t with
        | lst es => cases d with
          | list ys =>
            simp only
            by_cases hl : small (es.length + ys.length) = true
            · simp [hl, wp_ok, wp_ex, wp_bad]
            · simp [hl, wp_ok, wp_ex, wp_bad]
          | _ => first | rfl | (simp only [wp_ok, wp_ex, wp_bad, wpf_ret, wpf_ex, wpf_bad, WpO, WpP, R.bind, R.sh, R.truth]; done) | (simp only [wp_ok, wp_ex, wp_bad, wpf_ret, wpf_ex, wpf_bad, WpO, WpP, R.bind, R.sh, R.truth]; rfl) | (simp [wp_ok, wp_ex, wp_bad, wpf_ret, wpf_ex, wpf_bad, WpO, WpP, R.bind, R.sh, R.truth, toSh]; done)
        | _ => first | rfl | (simp only [wp_ok, wp_ex, wp_bad, wpf_ret, wpf_ex, wpf_bad, WpO, WpP, R.bind, R.sh, R.truth]; done) | (simp only [wp_ok, wp_ex, wp_bad, wpf_ret, wpf_ex, wpf_bad, WpO, WpP, R.bind, R.sh, R.truth]; rfl) | (simp [wp_ok, wp_ex, wp_bad, wpf_ret, wpf_ex, wpf_bad, WpO, WpP, R.bind, R.sh, R.truth, toSh]; done)
  | _ => first | rfl | (simp only [wp_ok, wp_ex, wp_bad, wpf_ret, wpf_ex, wpf_bad, WpO, WpP, R.bind, R.sh, R.truth]; done) | (simp only [wp_ok, wp_ex, wp_bad, wpf_ret, wpf_ex, wpf_bad, WpO, WpP, R.bind, R.sh, R.truth]; rfl) | (simp [wp_ok, wp_ex, wp_bad, wpf_ret, wpf_ex, wpf_bad, WpO, WpP, R.bind, R.sh, R.truth, toSh]; done)
theorem wp_setItem {i : Nat} {k c : CE} : Wp (ex fu Phi (.setItem i k c) r) Q E ↔ Wp (ev Phi c r) (kSh (kSetI Phi i k Q E)) E := by
  simp only [ex, Wp.bind, Wp.sh]
  cases ev Phi c r with
  | ok s r1 =>
    simp only [wp_ok, kSh]
    cases toSh s with
    | none => first | rfl | (simp only [wp_ok, wp_ex, wp_bad, wpf_ret, wpf_ex, wpf_bad, WpO, WpP, R.bind, R.sh, R.truth]; done) | (simp only [wp_ok, wp_ex, wp_bad, wpf_ret, wpf_ex, wpf_bad, WpO, WpP, R.bind, R.sh, R.truth]; rfl) | (simp [wp_ok, wp_ex, wp_bad, wpf_ret, wpf_ex, wpf_bad, WpO, WpP, R.bind, R.sh, R.truth, toSh]; done)
    | some d =>
      simp only [WpO, kSetI]
      cases r1[i]? with
      | none => first | rfl | (simp only [wp_ok, wp_ex, wp_bad, wpf_ret, wpf_ex, wpf_bad, WpO, WpP, R.bind, R.sh, R.truth]; done) | (simp only [wp_ok, wp_ex, wp_bad, wpf_ret, wpf_ex, wpf_bad, WpO, WpP, R.bind, R.sh, R.truth]; rfl) | (simp [wp_ok, wp_ex, wp_bad, wpf_ret, wpf_ex, wpf_bad, WpO, WpP, R.bind, R.sh, R.truth, toSh]; done)
      | some t => cases t with
        | lst es =>
          simp only [Wp.bind, Wp.sh]
          cases ev Phi k r1 with
          | ok s2 r2 =>
            simp only [wp_ok, kSh]
            cases toSh s2 with
            | none => first | rfl | (simp only [wp_ok, wp_ex, wp_bad, wpf_ret, wpf_ex, wpf_bad, WpO, WpP, R.bind, R.sh, R.truth]; done) | (simp only [wp_ok, wp_ex, wp_bad, wpf_ret, wpf_ex, wpf_bad, WpO, WpP, R.bind, R.sh, R.truth]; rfl) | (simp [wp_ok, wp_ex, wp_bad, wpf_ret, wpf_ex, wpf_bad, WpO, WpP, R.bind, R.sh, R.truth, toSh]; done)
            | some z =>
              simp only [WpO, kSetL]
              cases z with
              | int n =>
                cases r2[i]? with
                | none => first | rfl | (simp only [wp_ok, wp_ex, wp_bad, wpf_ret, wpf_ex, wpf_bad, WpO, WpP, R.bind, R.sh, R.truth]; done) | (simp only [wp_ok, wp_ex, wp_bad, wpf_ret, wpf_ex, wpf_bad, WpO, WpP, R.bind, R.sh, R.truth]; rfl) | (simp [wp_ok, wp_ex, wp_bad, wpf_ret, wpf_ex, wpf_bad, WpO, WpP, R.bind, R.sh, R.truth, toSh]; done)
                | some t2 => cases t2 with
                  | lst es2 => simp only; cases ixN es2.length n <;> first | rfl | (simp only [wp_ok, wp_ex, wp_bad, wpf_ret, wpf_ex, wpf_bad, WpO, WpP, R.bind, R.sh, R.truth]; done) | (simp only [wp_ok, wp_ex, wp_bad, wpf_ret, wpf_ex, wpf_bad, WpO, WpP, R.bind, R.sh, R.truth]; rfl) | (simp [wp_ok, wp_ex, wp_bad, wpf_ret, wpf_ex, wpf_bad, WpO, WpP, R.bind, R.sh, R.truth, toSh]; done)
                  | _ => first | rfl | (simp only [wp_ok, wp_ex, wp_bad, wpf_ret, wpf_ex, wpf_bad, WpO, WpP, R.bind, R.sh, R.truth]; done) | (simp only [wp_ok, wp_ex, wp_bad, wpf_ret, wpf_ex, wpf_bad, WpO, WpP, R.bind, R.sh, R.truth]; rfl) | (simp [wp_ok, wp_ex, wp_bad, wpf_ret, wpf_ex, wpf_bad, WpO, WpP, R.bind, R.sh, R.truth, toSh]; done)
              | _ => first | rfl | (simp only [wp_ok, wp_ex, wp_bad, wpf_ret, wpf_ex, wpf_bad, WpO, WpP, R.bind, R.sh, R.truth]; done) | (simp only [wp_ok, wp_ex, wp_bad, wpf_ret, wpf_ex, wpf_bad, WpO, WpP, R.bind, R.sh, R.truth]; rfl) | (simp [wp_ok, wp_ex, wp_bad, wpf_ret, wpf_ex, wpf_bad, WpO, WpP, R.bind, R.sh, R.truth, toSh]; done)
          | _ => first | rfl | (simp only [wp_ok, wp_ex, wp_bad, wpf_ret, wpf_ex, wpf_bad, WpO, WpP, R.bind, R.sh, R.truth]; done) | (simp only [wp_ok, wp_ex, wp_bad, wpf_ret, wpf_ex, wpf_bad, WpO, WpP, R.bind, R.sh, R.truth]; rfl) | (simp [wp_ok, wp_ex, wp_bad, wpf_ret, wpf_ex, wpf_bad, WpO, WpP, R.bind, R.sh, R.truth, toSh]; done)
        | dct t kvs =>
          simp only [Wp.bind, Wp.sh]
          cases ev Phi k r1 with
          | ok s2 r2 =>
            simp only [wp_ok, kSh]
            cases toSh s2 with
            | none => first | rfl | (simp only [wp_ok, wp_ex, wp_bad, wpf_ret, wpf_ex, wpf_bad, WpO, WpP, R.bind, R.sh, R.truth]; done) | (simp only [wp_ok, wp_ex, wp_bad, wpf_ret, wpf_ex, wpf_bad, WpO, WpP, R.bind, R.sh, R.truth]; rfl) | (simp [wp_ok, wp_ex, wp_bad, wpf_ret, wpf_ex, wpf_bad, WpO, WpP, R.bind, R.sh, R.truth, toSh]; done)
            | some z =>
              simp only [WpO, kSetD]
              cases r2[i]? with
              | none => first | rfl | (simp only [wp_ok, wp_ex, wp_bad, wpf_ret, wpf_ex, wpf_bad, WpO, WpP, R.bind, R.sh, R.truth]; done) | (simp only [wp_ok, wp_ex, wp_bad, wpf_ret, wpf_ex, wpf_bad, WpO, WpP, R.bind, R.sh, R.truth]; rfl) | (simp [wp_ok, wp_ex, wp_bad, wpf_ret, wpf_ex, wpf_bad, WpO, WpP, R.bind, R.sh, R.truth, toSh]; done)
              | some t2 => cases t2 with
                | dct t3 kvs2 =>
                  simp only
                  by_cases hl : (isKey t3 z && decide (kvs2.length < 16777216)) = true
                  · rw [if_pos hl]
                    simp only [Bool.and_eq_true, decide_eq_true_eq] at hl
                    simp [hl, wp_ok, wp_ex, wp_bad]
                  · rw [if_neg hl]
                    simp only [Bool.and_eq_true, decide_eq_true_eq] at hl
                    simp [hl, wp_ok, wp_ex, wp_bad]
                | _ => first | rfl | (simp only [wp_ok, wp_ex, wp_bad, wpf_ret, wpf_ex, wpf_bad, WpO, WpP, R.bind, R.sh, R.truth]; done) | (simp only [wp_ok, wp_ex, wp_bad, wpf_ret, wpf_ex, wpf_bad, WpO, WpP, R.bind, R.sh, R.truth]; rfl) | (simp [wp_ok, wp_ex, wp_bad, wpf_ret, wpf_ex, wpf_bad, WpO, WpP, R.bind, R.sh, R.truth, toSh]; done)
          | _ => first | rfl | (simp only [wp_ok, wp_ex, wp_bad, wpf_ret, wpf_ex, wpf_bad, WpO, WpP, R.bind, R.sh, R.truth]; done) | (simp only [wp_ok, wp_ex, wp_bad, wpf_ret, wpf_ex, wpf_bad, WpO, WpP, R.bind, R.sh, R.truth]; rfl) | (simp [wp_ok, wp_ex, wp_bad, wpf_ret, wpf_ex, wpf_bad, WpO, WpP, R.bind, R.sh, R.truth, toSh]; done)
        | _ => first | rfl | (simp only [wp_ok, wp_ex, wp_bad, wpf_ret, wpf_ex, wpf_bad, WpO, WpP, R.bind, R.sh, R.truth]; done) | (simp only [wp_ok, wp_ex, wp_bad, wpf_ret, wpf_ex, wpf_bad, WpO, WpP, R.bind, R.sh, R.truth]; rfl) | (simp [wp_ok, wp_ex, wp_bad, wpf_ret, wpf_ex, wpf_bad, WpO, WpP, R.bind, R.sh, R.truth, toSh]; done)
  | _ => first | rfl | (simp only [wp_ok, wp_ex, wp_bad, wpf_ret, wpf_ex, wpf_bad, WpO, WpP, R.bind, R.sh, R.truth]; done) | (simp only [wp_ok, wp_ex, wp_bad, wpf_ret, wpf_ex, wpf_bad, WpO, WpP, R.bind, R.sh, R.truth]; rfl) | (simp [wp_ok, wp_ex, wp_bad, wpf_ret, wpf_ex, wpf_bad, WpO, WpP, R.bind, R.sh, R.truth, toSh]; done)
theorem wp_pass : Wp (ex fu Phi .pass r) Q E ↔ Q .nx r := by simp only [ex, wp_ok, wp_ex, wp_bad]
theorem wp_raise0 {c : Nat} {f : String} : Wp (ex fu Phi (.raise_ c f .nil) r) Q E ↔ E c [] r := by simp only [ex, wp_ok, wp_ex, wp_bad]
theorem wp_raise1 {c : Nat} {f : String} {e : CE} : Wp (ex fu Phi (.raise_ c f (.cons e .nil)) r) Q E ↔ Wp (ev Phi e r) (kSh (kRaise c f E)) E := by
  simp only [ex, Wp.bind, Wp.sh]
  cases ev Phi e r with
  | ok s r1 =>
    simp only [wp_ok, kSh]
    cases toSh s <;> first | rfl | (simp only [wp_ok, wp_ex, wp_bad, wpf_ret, wpf_ex, wpf_bad, WpO, WpP, R.bind, R.sh, R.truth]; done) | (simp only [wp_ok, wp_ex, wp_bad, wpf_ret, wpf_ex, wpf_bad, WpO, WpP, R.bind, R.sh, R.truth]; rfl) | (simp [wp_ok, wp_ex, wp_bad, wpf_ret, wpf_ex, wpf_bad, WpO, WpP, R.bind, R.sh, R.truth, toSh]; done)
  | _ => first | rfl | (simp only [wp_ok, wp_ex, wp_bad, wpf_ret, wpf_ex, wpf_bad, WpO, WpP, R.bind, R.sh, R.truth]; done) | (simp only [wp_ok, wp_ex, wp_bad, wpf_ret, wpf_ex, wpf_bad, WpO, WpP, R.bind, R.sh, R.truth]; rfl) | (simp [wp_ok, wp_ex, wp_bad, wpf_ret, wpf_ex, wpf_bad, WpO, WpP, R.bind, R.sh, R.truth, toSh]; done)
theorem wp_try {b : CSs} {cs : List Nat} {i x : Nat} : Wp (ex fu Phi (.try_ b cs i x) r) Q E ↔ Wp (exs fu Phi b r) Q (eTry cs i x Q E) := by
  simp only [ex]
  cases exs fu Phi b r with
  | ok f r1 => simp only [wp_ok]
  | bad => simp only [wp_bad]
  | ex c fs r1 =>
    simp only [wp_ex, eTry]
    by_cases h : c ∈ cs
    · simp only [h, decide_true, if_true, true_implies, not_true_eq_false, false_implies, and_true]
      by_cases hl : i < r1.length
      · simp only [hl, decide_true, if_true, true_and]
        cases asgN x (.sh (excD c fs)) (r1.set i .non) with
        | none => simp only [wp_bad, WpO]
        | some r2 => simp only [wp_ok, WpO]
      · simp only [hl, decide_false, Bool.false_eq_true, if_false, wp_bad, false_and]
    · simp only [h, decide_false, Bool.false_eq_true, if_false, wp_ex, false_implies, true_and, not_false_eq_true, true_implies]
theorem wp_turns {α : Type} {step : PyData → Ro → R Fl} (enc : α → PyData) (I : List α → Ro → Prop) (xs : List α) (h0 : I [] r)
    (hs : ∀ pre x post q, xs = pre ++ x :: post → I pre q → Wp (step (enc x) q) (fun f q' => match f with | .nx => I (pre ++ [x]) q' | .ret s => Q (.ret s) q') E)
    (he : ∀ q, I xs q → Q .nx q) : Wp (turns step (xs.map enc) r) Q E := by
  have key : ∀ (post pre : List α) (q : Ro), xs = pre ++ post → I pre q → Wp (turns step (post.map enc) q) Q E := by
    intro post
    induction post with
    | nil => intro pre q e h; rw [List.append_nil] at e; exact ⟨he q (by rw [e]; exact h)⟩
    | cons x post ih =>
      intro pre q e h
      have hx := hs pre x post q e h
      simp only [List.map_cons, turns]
      cases es : step (enc x) q with
      | bad => rw [es] at hx; exact hx.out.elim
      | ex c fs r1 => rw [es] at hx; exact ⟨hx.out⟩
      | ok f r1 =>
        rw [es] at hx
        cases f with
        | nx => exact ih (pre ++ [x]) r1 (by rw [e, List.append_assoc]; rfl) hx.out
        | ret s => exact ⟨hx.out⟩
  exact key xs [] r rfl h0
theorem wp_rng {step : PyData → Ro → R Fl} {lo : Int} {n : Nat} (I : Nat → Ro → Prop) (h0 : I 0 r)
    (hs : ∀ (k : Nat) q, k < n → I k q → Wp (step (.int (lo + (k : Int))) q) (fun f q' => match f with | .nx => I (k + 1) q' | .ret s => Q (.ret s) q') E)
    (he : ∀ q, I n q → Q .nx q) : Wp (turns step (rngL lo n) r) Q E := by
  refine wp_turns (fun (k : Nat) => PyData.int (lo + (k : Int))) (fun pre q => I pre.length q) (List.range n) h0 (fun pre x post q e h => ?_) (fun q h => he q (by simpa using h))
  have hx : x = pre.length ∧ pre.length < n := by
    have h1 : (List.range n)[pre.length]? = some x := by rw [e]; simp
    rw [List.getElem?_range] at h1
    · exact ⟨(Option.some.inj h1).symm, by have := congrArg List.length e; simp at this; omega⟩
    · have := congrArg List.length e; simp at this; omega
  obtain ⟨rfl, hl⟩ := hx
  have := hs pre.length q hl h
  rw [List.length_append]
  exact this
theorem wp_forStep {t : CT} {b : CSs} {d : PyData} : Wp (forStep fu Phi t b d r) Q E ↔ WpO (asg t d r) fun q => Wp (exs fu Phi b q) Q E := by
  unfold forStep
  cases asg t d r <;> first | rfl | (simp only [wp_ok, wp_ex, wp_bad, wpf_ret, wpf_ex, wpf_bad, WpO, WpP, R.bind, R.sh, R.truth]; done) | (simp only [wp_ok, wp_ex, wp_bad, wpf_ret, wpf_ex, wpf_bad, WpO, WpP, R.bind, R.sh, R.truth]; rfl) | (simp [wp_ok, wp_ex, wp_bad, wpf_ret, wpf_ex, wpf_bad, WpO, WpP, R.bind, R.sh, R.truth, toSh]; done)
def kLe2 (q : Ro) (ws : List Nat) (Q : Option PyData → Ro → Prop) (y : PyData) (r : Ro) : Prop := Q (some y) (backR q r ws)
def kLe (Phi : Nat → Ro → FR) (elt : CE) (q : Ro) (ws : List Nat) (Q : Option PyData → Ro → Prop) (E : XP) (b : Bool) (r : Ro) : Prop := (b = true → Wp (ev Phi elt r) (kSh (kLe2 q ws Q)) E) ∧ (b = false → Q none (backR q r ws))
theorem wp_lcStep {elt : CE} {tg : CT} {cond : CEs} {ws : List Nat} {d : PyData} {Q : Option PyData → Ro → Prop} : Wp (lcStep Phi elt tg cond ws d r) Q E ↔ WpO (asg tg d (wipeR r ws)) fun q1 => Wp (evC Phi cond q1) (kLe Phi elt r ws Q E) E := by
  unfold lcStep
  cases asg tg d (wipeR r ws) with
  | none => first | rfl | (simp only [wp_ok, wp_ex, wp_bad, wpf_ret, wpf_ex, wpf_bad, WpO, WpP, R.bind, R.sh, R.truth]; done) | (simp only [wp_ok, wp_ex, wp_bad, wpf_ret, wpf_ex, wpf_bad, WpO, WpP, R.bind, R.sh, R.truth]; rfl) | (simp [wp_ok, wp_ex, wp_bad, wpf_ret, wpf_ex, wpf_bad, WpO, WpP, R.bind, R.sh, R.truth, toSh]; done)
  | some q1 =>
    simp only [WpO, Wp.bind]
    cases evC Phi cond q1 with
    | ok b q2 =>
      simp only [wp_ok, kLe]
      cases b with
      | false => simp [wp_ok, wp_ex, wp_bad]
      | true =>
        simp only [if_true, forall_const, Bool.true_eq_false, false_implies, and_true, true_implies]
        show Wp (R.bind _ _) Q E ↔ _
        rw [Wp.bind, Wp.sh]
        cases ev Phi elt q2 with
        | ok s q3 =>
          simp only [wp_ok, kSh]
          cases toSh s <;> first | rfl | (simp only [wp_ok, wp_ex, wp_bad, wpf_ret, wpf_ex, wpf_bad, WpO, WpP, R.bind, R.sh, R.truth]; done) | (simp only [wp_ok, wp_ex, wp_bad, wpf_ret, wpf_ex, wpf_bad, WpO, WpP, R.bind, R.sh, R.truth]; rfl) | (simp [wp_ok, wp_ex, wp_bad, wpf_ret, wpf_ex, wpf_bad, WpO, WpP, R.bind, R.sh, R.truth, toSh]; done)
        | _ => first | rfl | (simp only [wp_ok, wp_ex, wp_bad, wpf_ret, wpf_ex, wpf_bad, WpO, WpP, R.bind, R.sh, R.truth]; done) | (simp only [wp_ok, wp_ex, wp_bad, wpf_ret, wpf_ex, wpf_bad, WpO, WpP, R.bind, R.sh, R.truth]; rfl) | (simp [wp_ok, wp_ex, wp_bad, wpf_ret, wpf_ex, wpf_bad, WpO, WpP, R.bind, R.sh, R.truth, toSh]; done)
    | _ => first | rfl | (simp only [wp_ok, wp_ex, wp_bad, wpf_ret, wpf_ex, wpf_bad, WpO, WpP, R.bind, R.sh, R.truth]; done) | (simp only [wp_ok, wp_ex, wp_bad, wpf_ret, wpf_ex, wpf_bad, WpO, WpP, R.bind, R.sh, R.truth]; rfl) | (simp [wp_ok, wp_ex, wp_bad, wpf_ret, wpf_ex, wpf_bad, WpO, WpP, R.bind, R.sh, R.truth, toSh]; done)
theorem wp_comp {α : Type} {step : PyData → Ro → R (Option PyData)} {Q : List PyData → Ro → Prop} (enc : α → PyData) (I : List α → List PyData → Ro → Prop) (xs : List α) (h0 : I [] [] r)
    (hs : ∀ pre x post ys q, xs = pre ++ x :: post → I pre ys q → Wp (step (enc x) q) (fun o q' => match o with | some y => I (pre ++ [x]) (ys ++ [y]) q' | none => I (pre ++ [x]) ys q') noE)
    (he : ∀ ys q, I xs ys q → Q ys q) : Wp (comp step (xs.map enc) [] r) Q E := by
  have key : ∀ (post pre : List α) (ys : List PyData) (q : Ro), xs = pre ++ post → I pre ys q → Wp (comp step (post.map enc) ys q) Q E := by
    intro post
    induction post with
    | nil => intro pre ys q e h; rw [List.append_nil] at e; exact ⟨he ys q (by rw [e]; exact h)⟩
    | cons x post ih =>
      intro pre ys q e h
      have hx := hs pre x post ys q e h
      simp only [List.map_cons, comp]
      cases es : step (enc x) q with
      | bad => rw [es] at hx; exact hx.out.elim
      | ex c fs r1 => rw [es] at hx; exact hx.out.elim
      | ok o r1 =>
        rw [es] at hx
        cases o with
        | none => exact ih (pre ++ [x]) ys r1 (by rw [e, List.append_assoc]; rfl) hx.out
        | some y => exact ih (pre ++ [x]) (ys ++ [y]) r1 (by rw [e, List.append_assoc]; rfl) hx.out
  exact key xs [] [] r rfl h0
theorem wp_compM {α : Type} {step : PyData → Ro → R (Option PyData)} {Q : List PyData → Ro → Prop} (enc : α → PyData) (g : α → Option PyData) (xs : List α)
    (hs : ∀ x ∈ xs, Wp (step (enc x) r) (fun o q' => o = g x ∧ q' = r) noE) (he : Q (xs.filterMap g) r) : Wp (comp step (xs.map enc) [] r) Q E := by
  refine wp_comp enc (fun pre ys q => ys = pre.filterMap g ∧ q = r) xs ⟨rfl, rfl⟩ (fun pre x post ys q e h => ?_) (fun ys q h => by rw [h.1, h.2]; exact he)
  obtain ⟨rfl, rfl⟩ := h
  refine (hs x (by rw [e]; simp)).to fun o q' ⟨h1, h2⟩ => ?_
  subst h1 h2
  cases e2 : g x with
  | none => simp [e2]
  | some y => simp [e2]
end
section
variable {fu : Nat} {Phi : Nat → Ro → FR} {E : XP}
def outL (muts : List Nat) : Nat → Ro → Ro → Ro
  | _, [], _ => []
  | i, a :: as, r => (if decide (i ∈ muts) = true then r.headD .non else a) :: outL muts (i + 1) as r.tail
theorem outL_eq (muts : List Nat) : ∀ (as : Ro) (i : Nat) (r : Ro), outL muts i as r = (List.range as.length).map fun j => if decide (i + j ∈ muts) = true then r.getD j .non else as.getD j .non
  | [], i, r => rfl
  | a :: as, i, r => by
    rw [outL, outL_eq muts as (i + 1) r.tail, List.length_cons, List.range_succ_eq_map, List.map_cons, List.map_map]
    congr 1
    · cases r <;> simp
    · apply List.map_congr_left
      intro j _
      have e : i + 1 + j = i + (j + 1) := by omega
      cases r <;> simp [e, Function.comp]
theorem outsOf_eq (muts : List Nat) (args r : Ro) : outsOf muts args r = outL muts 0 args r := by
  rw [outL_eq]
  unfold outsOf
  simp
def kFn (muts : List Nat) (args : Ro) (Q : Slot → Ro → Prop) (f : Fl) (r : Ro) : Prop := match f with
  | .ret s => Q s (outL muts 0 args r)
  | .nx => Q (.sh .none) (outL muts 0 args r)
def eFn (muts : List Nat) (args : Ro) (E : XP) (c : Nat) (fs : List (PyData × PyData)) (r : Ro) : Prop := E c fs (outL muts 0 args r)
theorem wp_fn {np nn : Nat} {muts : List Nat} {body : CSs} {args : Ro} {Q : Slot → Ro → Prop} (h1 : args.length = np) (h2 : okArgs muts 0 args = true)
    (h : Wp (exs fu Phi body (args ++ List.replicate (nn - np) .non)) (kFn muts args Q) (eFn muts args E)) : WpF (runF fu Phi ⟨np, nn, muts, body⟩ args) Q E := by
  unfold runF
  rw [if_pos (by simp [h1, h2])]
  simp only
  cases e : exs fu Phi body (args ++ List.replicate (nn - np) .non) with
  | bad => rw [e] at h; exact h.out.elim
  | ex c fs r => rw [e] at h; simp only [wpf_ret, wpf_ex, outsOf_eq]; exact h.out
  | ok f r =>
    rw [e] at h
    cases f with
    | nx => simp only [wpf_ret, wpf_ex, outsOf_eq]; exact h.out
    | ret s => simp only [wpf_ret, wpf_ex, outsOf_eq]; exact h.out
theorem run_succ {T : List Fn} {i k : Nat} {F : Fn} {args : Ro} (h : T[i]? = some F) : run fu T (k + 1) i args = runF fu (run fu T k) F args := by simp only [run, h]
end
end Ev
end

section
set_option maxHeartbeats 8000000
set_option Elab.async false
set_option linter.all false
set_option maxRecDepth 100000
namespace Ev
open PySem L2
section
variable (Phi : Nat → Ro → FR)
def kMcl (f i : Nat) (Q : Slot → Ro → Prop) (E : XP) (x : List Od) (r : Ro) : Prop := kCall Phi f Q E (.pl i :: x) r
def kMcT (f : Nat) (s : Slot) (Q : Slot → Ro → Prop) (E : XP) (x : List Od) (r : Ro) : Prop := kCall Phi f Q E (.tm s :: x) r
def kMcO (c : Nat) (m : Str) (f : Nat) (es : CEs) (Q : Slot → Ro → Prop) (E : XP) (s : Slot) (r : Ro) : Prop := isObj c m (some s) = true ∧ Wp (evA Phi es r) (kMcT Phi f s Q E) E
def kMkB (c : Nat) (ls : List (Option Nat)) (r : Ro) (Q : Slot → Ro → Prop) (s : Slot) (o : Ro) : Prop := match s, o with
  | .sh .none, .obj c' fs :: os => c' = c ∧ Q (.obj c' fs) (putBack ls os r)
  | _, _ => False
def eMk (ls : List (Option Nat)) (r : Ro) (E : XP) (c : Nat) (fs : List (PyData × PyData)) (o : Ro) : Prop := match o with
  | _ :: os => E c fs (putBack ls os r)
  | [] => False
def kMk (c f : Nat) (Q : Slot → Ro → Prop) (E : XP) (x : List Od) (r : Ro) : Prop := WpO (mvs x r) fun p => WpF (Phi f (.obj c [] :: p.1)) (kMkB c p.2.1 p.2.2 Q) (eMk p.2.1 p.2.2 E)
end
def shF : Option Fd → Option PyData
  | some (.sh d) => some d
  | _ => none
def fldAt (c i : Nat) (f : Str) (r : Ro) : Option PyData := match r[i]? with
  | some (.obj c' fs) => if decide (c' = c) = true then shF (fs.lookup f) else none
  | some (.rob c' fs) => if decide (c' = c) = true then shF (fs.lookup f) else none
  | _ => none
def fldD2 (c i : Nat) (f : Str) (r : Ro) : Option PyData := match r[i]? with
  | some (.obj c' fs) => if decide (c' = c) = true then (fs.lookup f).map Fd.data else none
  | _ => none
def kFput (c i : Nat) (f : Str) (Q : Fl → Ro → Prop) (s : Slot) (r : Ro) : Prop := match s.fd, r[i]? with
  | some x, some (.obj c' fs) => (c' = c ∧ fs.length < 100) ∧ Q .nx (r.set i (.obj c' (putFd f x fs)))
  | _, _ => False
def kFapp (c i : Nat) (f : Str) (fs : List (Str × Fd)) (ds : List PyData) (Q : Fl → Ro → Prop) (y : PyData) (r : Ro) : Prop := ds.length < 16777216 ∧ Q .nx (r.set i (.obj c (putFd f (.lst (ds ++ [y])) fs)))
def kForF (i c : Nat) (fs : List (Str × Fd)) (Q : Fl → Ro → Prop) (f : Fl) (q : Ro) : Prop := ((q.set i .non).all (fun s => !isRob s) = true ∧ flRob f = false) ∧ Q f (q.set i (.obj c fs))
section
variable {fu : Nat} {Phi : Nat → Ro → FR} {E : XP} {r : Ro}
theorem call_tail {f : Nat} {x : List Od} {r1 : Ro} {Q : Slot → Ro → Prop} : Wp (match mvs x r1 with
    | some (args, ls, r2) => (match Phi f args with
      | .ret s outs => .ok s (putBack ls outs r2)
      | .ex cc fs outs => .ex cc fs (putBack ls outs r2)
      | .bad => .bad)
    | none => .bad) Q E ↔ kCall Phi f Q E x r1 := by
  unfold kCall
  cases mvs x r1 with
  | none => simp only [wp_bad, WpO]
  | some p =>
    obtain ⟨args, ls, r2⟩ := p
    simp only [WpO]
    cases Phi f args with
    | ret s o => simp only [wp_ok, wpf_ret, kBack]
    | ex c fs o => simp only [wp_ex, wpf_ex, kBackE]
    | bad => simp only [wp_bad, wpf_bad]
theorem wp_mcall {c : Nat} {m : Str} {f i : Nat} {es : CEs} {Q : Slot → Ro → Prop} : Wp (ev Phi (.mcall c m f (.ref i) es) r) Q E ↔ isObj c m r[i]? = true ∧ Wp (evA Phi es r) (kMcl Phi f i Q E) E := by
  simp only [ev]
  by_cases h : isObj c m r[i]? = true
  · rw [if_pos h, Wp.bind]
    simp only [h, true_and]
    cases evA Phi es r with
    | ok x r1 => simp only [wp_ok, kMcl]; exact call_tail
    | ex c fs r1 => simp only [wp_ex]
    | bad => simp only [wp_bad]
  · rw [if_neg h]
    simp only [wp_bad, h, false_and]
    exact ⟨fun z => z.elim, fun z => absurd z.1 (by simp [h])⟩
theorem wp_mcallO {c : Nat} {m : Str} {f : Nat} {e : CE} {es : CEs} {Q : Slot → Ro → Prop} : Wp (ev Phi (.mcall c m f (.own e) es) r) Q E ↔ Wp (ev Phi e r) (kMcO Phi c m f es Q E) E := by
  simp only [ev, Wp.bind]
  cases ev Phi e r with
  | ex c fs r1 => simp only [wp_ex]
  | bad => simp only [wp_bad]
  | ok s r0 =>
    simp only [wp_ok, kMcO]
    by_cases h : isObj c m (some s) = true
    · rw [if_pos h, Wp.bind]
      simp only [h, true_and]
      cases evA Phi es r0 with
      | ok x r1 => simp only [wp_ok, kMcT]; exact call_tail
      | ex c fs r1 => simp only [wp_ex]
      | bad => simp only [wp_bad]
    · rw [if_neg h]
      simp only [wp_bad, h, false_and]
      exact ⟨fun z => z.elim, fun z => absurd z.1 (by simp [h])⟩
theorem wp_mk {c f : Nat} {es : CEs} {Q : Slot → Ro → Prop} : Wp (ev Phi (.mk c f es) r) Q E ↔ Wp (evA Phi es r) (kMk Phi c f Q E) E := by
  simp only [ev, Wp.bind]
  cases evA Phi es r with
  | ex c fs r1 => simp only [wp_ex]
  | bad => simp only [wp_bad]
  | ok x r1 =>
    simp only [wp_ok, kMk]
    cases mvs x r1 with
    | none => simp only [wp_bad, WpO]
    | some p =>
      obtain ⟨args, ls, r2⟩ := p
      simp only [WpO]
      cases Phi f (.obj c [] :: args) with
      | bad => simp only [wp_bad, wpf_bad]
      | ex cc fs o =>
        cases o with
        | nil => simp only [wp_bad, wpf_ex, eMk]
        | cons a o => simp only [wp_ex, wpf_ex, eMk]
      | ret s o =>
        simp only [wpf_ret]
        cases s with
        | sh d =>
          cases d with
          | none =>
            cases o with
            | nil => simp only [wp_bad, kMkB]
            | cons a o =>
              cases a with
              | obj c' fs =>
                simp only [kMkB]
                by_cases h : c' = c
                · simp only [h, decide_true, if_true, wp_ok, true_and]
                · simp only [h, decide_false, Bool.false_eq_true, if_false, wp_bad, false_and]
              | _ => simp only [wp_bad, kMkB]
          | _ => simp only [wp_bad, kMkB]
        | _ => simp only [wp_bad, kMkB]
theorem wp_fld {c i : Nat} {f : Str} {Q : Slot → Ro → Prop} : Wp (ev Phi (.fld c i f) r) Q E ↔ WpO (fldAt c i f r) fun d => Q (.sh d) r := by
  simp only [ev]
  unfold fldAt
  cases r[i]? with
  | none => simp only [wp_bad, WpO]
  | some s =>
    cases s with
    | obj c' fs =>
      simp only
      by_cases h : c' = c
      · simp only [h, decide_true, if_true]
        cases fs.lookup f with
        | none => simp only [wp_bad, WpO, shF]
        | some x => cases x <;> simp only [wp_ok, wp_bad, WpO, shF]
      · simp only [h, decide_false, Bool.false_eq_true, if_false, wp_bad, WpO]
    | rob c' fs =>
      simp only
      by_cases h : c' = c
      · simp only [h, decide_true, if_true]
        cases fs.lookup f with
        | none => simp only [wp_bad, WpO, shF]
        | some x => cases x <;> simp only [wp_ok, wp_bad, WpO, shF]
      · simp only [h, decide_false, Bool.false_eq_true, if_false, wp_bad, WpO]
    | _ => simp only [wp_bad, WpO]
theorem wp_opf {o : Op} {c i : Nat} {f : Str} {Q : Slot → Ro → Prop} : Wp (ev Phi (.opf o c i f) r) Q E ↔ WpO (fldD2 c i f r) fun d => WpP (prim o [d]) r Q := by
  simp only [ev]
  unfold fldD2
  cases r[i]? with
  | none => simp only [wp_bad, WpO]
  | some s =>
    cases s with
    | obj c' fs =>
      simp only
      by_cases h : c' = c
      · simp only [h, decide_true, if_true]
        cases fs.lookup f with
        | none => simp only [wp_bad, WpO, Option.map_none]
        | some x =>
          simp only [WpO, Option.map_some]
          cases prim o [x.data] with
          | none => simp only [wp_bad, WpP]
          | some s => simp only [wp_ok, WpP]
      · simp only [h, decide_false, Bool.false_eq_true, if_false, wp_bad, WpO]
    | _ => simp only [wp_bad, WpO]
end
section
variable {fu : Nat} {Phi : Nat → Ro → FR} {Q : Fl → Ro → Prop} {E : XP} {r : Ro}
theorem wp_ret_mcall {c : Nat} {m : Str} {f : Nat} {a : CE} {es : CEs} : Wp (ex fu Phi (.ret (.mcall c m f a es)) r) Q E ↔ Wp (ev Phi (.mcall c m f a es) r) (kRet Q) E := ret_gen (by simp only [ex])
theorem wp_ret_mk {c f : Nat} {es : CEs} : Wp (ex fu Phi (.ret (.mk c f es)) r) Q E ↔ Wp (ev Phi (.mk c f es) r) (kRet Q) E := ret_gen (by simp only [ex])
theorem wp_ret_fld {c i : Nat} {f : Str} : Wp (ex fu Phi (.ret (.fld c i f)) r) Q E ↔ Wp (ev Phi (.fld c i f) r) (kRet Q) E := ret_gen (by simp only [ex])
theorem wp_ret_opf {o : Op} {c i : Nat} {f : Str} : Wp (ex fu Phi (.ret (.opf o c i f)) r) Q E ↔ Wp (ev Phi (.opf o c i f) r) (kRet Q) E := ret_gen (by simp only [ex])
def kPar (i j : Nat) (Q : Fl → Ro → Prop) (ds : List PyData) (r : Ro) : Prop := match ds with
  | [x, y] => (i < r.length ∧ j < r.length ∧ i ≠ j) ∧ Q .nx ((r.set i (.sh x)).set j (.sh y))
  | _ => False
theorem wp_par {i j : Nat} {a b : CE} : Wp (ex fu Phi (.par i j a b) r) Q E ↔ Wp (evs Phi (.cons a (.cons b .nil)) r) (kPar i j Q) E := by
  simp only [ex, Wp.bind]
  cases evs Phi (.cons a (.cons b .nil)) r with
  | ex c fs r1 => simp only [wp_ex]
  | bad => simp only [wp_bad]
  | ok ds r1 =>
    simp only [wp_ok, kPar]
    match ds with
    | [] => simp only [wp_bad]
    | [_] => simp only [wp_bad]
    | [x, y] =>
      simp only
      by_cases h : (decide (i < r1.length) && decide (j < r1.length) && decide (i ≠ j)) = true
      · rw [if_pos h]
        simp only [Bool.and_eq_true, decide_eq_true_eq] at h
        simp only [wp_ok, h.1.1, h.1.2, h.2, ne_eq, not_false_eq_true, and_self, true_and]
      · rw [if_neg h]
        simp only [Bool.and_eq_true, decide_eq_true_eq, and_assoc] at h
        simp only [wp_bad, h, false_and]
    | _ :: _ :: _ :: _ => simp only [wp_bad]
theorem wp_fput {c i : Nat} {f : Str} {e : CE} : Wp (ex fu Phi (.fput c i f e) r) Q E ↔ Wp (ev Phi e r) (kFput c i f Q) E := by
  simp only [ex, Wp.bind]
  cases ev Phi e r with
  | ex c fs r1 => simp only [wp_ex]
  | bad => simp only [wp_bad]
  | ok s r1 =>
    simp only [wp_ok, kFput]
    cases s.fd with
    | none => simp only [wp_bad]
    | some x =>
      cases r1[i]? with
      | none => simp only [wp_bad]
      | some z =>
        cases z with
        | obj c' fs =>
          simp only
          by_cases h : (decide (c' = c) && decide (fs.length < 100)) = true
          · rw [if_pos h]
            simp only [Bool.and_eq_true, decide_eq_true_eq] at h
            simp only [wp_ok, h, true_and, and_self]
          · rw [if_neg h]
            simp only [Bool.and_eq_true, decide_eq_true_eq] at h
            simp only [wp_bad, h, false_and]
        | _ => simp only [wp_bad]
end
section
variable {fu : Nat} {Phi : Nat → Ro → FR} {E : XP} {r : Ro}
theorem wp_rds_fld {c i : Nat} {f : Str} {es : CEs} {Q : List Od → Ro → Prop} : Wp (rds Phi (.cons (.fld c i f) es) r) Q E ↔ Wp (ev Phi (.fld c i f) r) (kDs Phi es Q E) E := rds_gen (by simp only [rds])
theorem wp_evA_fld {c i : Nat} {f : Str} {es : CEs} {Q : List Od → Ro → Prop} : Wp (evA Phi (.cons (.fld c i f) es) r) Q E ↔ Wp (ev Phi (.fld c i f) r) (kDA Phi es Q E) E := evA_gen (by simp only [evA])
theorem wp_evI_fld {c i : Nat} {f : Str} {Q : List PyData × List Lk → Ro → Prop} : Wp (evI Phi (.seq (.fld c i f)) r) Q E ↔ Wp (ev Phi (.fld c i f) r) (kSh (kSeqI Q E)) E := evI_gen (by simp only [evI])
theorem wp_rds_opf {o : Op} {c i : Nat} {f : Str} {es : CEs} {Q : List Od → Ro → Prop} : Wp (rds Phi (.cons (.opf o c i f) es) r) Q E ↔ Wp (ev Phi (.opf o c i f) r) (kDs Phi es Q E) E := rds_gen (by simp only [rds])
theorem wp_evA_opf {o : Op} {c i : Nat} {f : Str} {es : CEs} {Q : List Od → Ro → Prop} : Wp (evA Phi (.cons (.opf o c i f) es) r) Q E ↔ Wp (ev Phi (.opf o c i f) r) (kDA Phi es Q E) E := evA_gen (by simp only [evA])
theorem wp_evI_opf {o : Op} {c i : Nat} {f : Str} {Q : List PyData × List Lk → Ro → Prop} : Wp (evI Phi (.seq (.opf o c i f)) r) Q E ↔ Wp (ev Phi (.opf o c i f) r) (kSh (kSeqI Q E)) E := evI_gen (by simp only [evI])
theorem wp_rds_mcall {c : Nat} {m : Str} {f : Nat} {a : CE} {es0 : CEs} {es : CEs} {Q : List Od → Ro → Prop} : Wp (rds Phi (.cons (.mcall c m f a es0) es) r) Q E ↔ Wp (ev Phi (.mcall c m f a es0) r) (kDs Phi es Q E) E := rds_gen (by simp only [rds])
theorem wp_evA_mcall {c : Nat} {m : Str} {f : Nat} {a : CE} {es0 : CEs} {es : CEs} {Q : List Od → Ro → Prop} : Wp (evA Phi (.cons (.mcall c m f a es0) es) r) Q E ↔ Wp (ev Phi (.mcall c m f a es0) r) (kDA Phi es Q E) E := evA_gen (by simp only [evA])
theorem wp_evI_mcall {c : Nat} {m : Str} {f : Nat} {a : CE} {es0 : CEs} {Q : List PyData × List Lk → Ro → Prop} : Wp (evI Phi (.seq (.mcall c m f a es0)) r) Q E ↔ Wp (ev Phi (.mcall c m f a es0) r) (kSh (kSeqI Q E)) E := evI_gen (by simp only [evI])
theorem wp_rds_mk {c f : Nat} {es0 : CEs} {es : CEs} {Q : List Od → Ro → Prop} : Wp (rds Phi (.cons (.mk c f es0) es) r) Q E ↔ Wp (ev Phi (.mk c f es0) r) (kDs Phi es Q E) E := rds_gen (by simp only [rds])
theorem wp_evA_mk {c f : Nat} {es0 : CEs} {es : CEs} {Q : List Od → Ro → Prop} : Wp (evA Phi (.cons (.mk c f es0) es) r) Q E ↔ Wp (ev Phi (.mk c f es0) r) (kDA Phi es Q E) E := evA_gen (by simp only [evA])
theorem wp_evI_mk {c f : Nat} {es0 : CEs} {Q : List PyData × List Lk → Ro → Prop} : Wp (evI Phi (.seq (.mk c f es0)) r) Q E ↔ Wp (ev Phi (.mk c f es0) r) (kSh (kSeqI Q E)) E := evI_gen (by simp only [evI])
end
end Ev
end

section
set_option Elab.async false
set_option linter.all false
set_option maxRecDepth 100000
set_option maxHeartbeats 1000000
namespace Ev
open PySem
section
variable {fu : Nat} {Phi : Nat → Ro → FR} {r : Ro} {E : XP}
def kItsI (Q : List PyData × List Lk → Ro → Prop) (E : XP) (d : PyData) (r : Ro) : Prop := Wp (itsI d r) Q E
theorem wp_evI_its {c : CE} {Q : List PyData × List Lk → Ro → Prop} : Wp (evI Phi (.its c) r) Q E ↔ Wp (ev Phi c r) (kSh (kItsI Q E)) E := by
  simp only [evI, Wp.bind, Wp.sh]
  rfl
theorem itsI_D {t : Bool} {kvs : List (PyData × PyData)} {r : Ro} : itsI (dictD t kvs) r = .ok (pairL kvs, []) r := rfl
theorem seqI_D {t : Bool} {kvs : List (PyData × PyData)} {l : List Lk} {r : Ro} : seqI (dictD t kvs) l r = .ok (kvs.map (·.1), l) r := rfl
theorem seqI_S {z : Str} {l : List Lk} {r : Ro} (h : z.length ≤ 16777216) : seqI (.str z) l r = .ok (chrsD z, l) r := by
  show (if _ then _ else _) = _
  rw [if_pos (show small z.length = true from decide_eq_true h)]
def kPop0 (i : Nat) (Q : Slot → Ro → Prop) (r : Ro) : Prop := match r[i]? with
  | some (.lst ds) => WpO ds.getLast? fun y => Q (.sh y) (r.set i (.lst ds.dropLast))
  | _ => False
theorem wp_pop0 {i : Nat} {Q : Slot → Ro → Prop} : Wp (ev Phi (.pop0 i) r) Q E ↔ kPop0 i Q r := by
  simp only [ev, kPop0]
  cases r[i]? with
  | none => simp only [wp_bad]
  | some t =>
    cases t with
    | lst ds => simp only; cases ds.getLast? <;> simp only [wp_ok, wp_bad, WpO]
    | _ => simp only [wp_bad]
theorem wp_rds_pop0 {i : Nat} {es : CEs} {Q : List Od → Ro → Prop} : Wp (rds Phi (.cons (.pop0 i) es) r) Q E ↔ Wp (ev Phi (.pop0 i) r) (kDs Phi es Q E) E := rds_gen (by simp only [rds])
theorem wp_evA_pop0 {i : Nat} {es : CEs} {Q : List Od → Ro → Prop} : Wp (evA Phi (.cons (.pop0 i) es) r) Q E ↔ Wp (ev Phi (.pop0 i) r) (kDA Phi es Q E) E := evA_gen (by simp only [evA])
theorem wp_ret_pop0 {i : Nat} {Q : Fl → Ro → Prop} : Wp (ex fu Phi (.ret (.pop0 i)) r) Q E ↔ Wp (ev Phi (.pop0 i) r) (kRet Q) E := ret_gen (by simp only [ex])
def kRem (i : Nat) (Q : Fl → Ro → Prop) (y : PyData) (r : Ro) : Prop := match r[i]? with
  | some (.lst ds) => (shp (.list ds) && shp y) = true ∧ WpO (idxD ds y) fun j => Q .nx (r.set i (.lst (ds.eraseIdx j)))
  | _ => False
theorem wp_rem {i : Nat} {c : CE} {Q : Fl → Ro → Prop} : Wp (ex fu Phi (.rem i c) r) Q E ↔ isLs r i = true ∧ Wp (ev Phi c r) (kSh (kRem i Q)) E := by
  rcases isL_cases r i with ⟨ds, h⟩ | h
  case inr =>
    simp only [h, Bool.false_eq_true, false_and, iff_false]
    simp only [ex]
    unfold isLs at h
    split <;> simp_all [wp_bad]
  have h2 : isLs r i = true := by unfold isLs; rw [h]
  simp only [h2, true_and]
  simp only [ex, h, Wp.bind, Wp.sh]
  cases ev Phi c r with
  | ok s r1 =>
    simp only [wp_ok, kSh]
    cases toSh s with
    | none => simp only [WpO, wp_bad]
    | some d =>
      simp only [WpO, kRem]
      cases r1[i]? with
      | none => simp only [wp_bad]
      | some t =>
        cases t with
        | lst ds =>
          simp only
          by_cases hs : (shp (.list ds) && shp d) = true
          · simp only [hs, if_true, true_and]
            cases idxD ds d <;> simp only [wp_ok, wp_bad]
          · rw [if_neg hs, wp_bad]; exact ⟨False.elim, fun z => hs z.1⟩
        | _ => simp only [wp_bad]
  | ex _ _ _ => simp only [wp_ex]
  | bad => simp only [wp_bad]
def kRev (i : Nat) (Q : Fl → Ro → Prop) (r : Ro) : Prop := match r[i]? with
  | some (.lst ds) => Q .nx (r.set i (.lst ds.reverse))
  | _ => False
theorem wp_rev {i : Nat} {Q : Fl → Ro → Prop} : Wp (ex fu Phi (.rev_ i) r) Q E ↔ kRev i Q r := by
  simp only [ex, kRev]
  cases r[i]? with
  | none => simp only [wp_bad]
  | some t => cases t <;> simp only [wp_ok, wp_bad]
def isDs (r : Ro) (i : Nat) : Bool := match r[i]? with
  | some (.dct _ _) => true
  | _ => false
def kSdf2 (i : Nat) (Q : Fl → Ro → Prop) (z y : PyData) (r : Ro) : Prop := match r[i]? with
  | some (.dct t kvs) => isKey t z = true ∧ kvs.length < 16777216 ∧ ((lookD z kvs).isSome = true → Q .nx r) ∧ ((lookD z kvs).isSome = false → Q .nx (r.set i (.dct t (kvs ++ [(z, y)]))))
  | _ => False
def kSdf (i : Nat) (c : CE) (Q : Fl → Ro → Prop) (E : XP) (z : PyData) (r : Ro) : Prop := Wp (ev Phi c r) (kSh (kSdf2 i Q z)) E
theorem wp_setdef {i : Nat} {k c : CE} {Q : Fl → Ro → Prop} : Wp (ex fu Phi (.setdef i k c) r) Q E ↔ isDs r i = true ∧ Wp (ev Phi k r) (kSh (kSdf (Phi := Phi) i c Q E)) E := by
  by_cases h : ∃ t kvs, r[i]? = some (.dct t kvs)
  case neg =>
    have h2 : isDs r i = false := by
      unfold isDs
      split
      · exact absurd ⟨_, _, by assumption⟩ h
      · rfl
    simp only [h2, Bool.false_eq_true, false_and, iff_false]
    simp only [ex]
    split
    · exact absurd ⟨_, _, by assumption⟩ h
    · simp only [wp_bad]; exact id
  obtain ⟨t, kvs, h⟩ := h
  have h2 : isDs r i = true := by unfold isDs; rw [h]
  simp only [h2, true_and]
  simp only [ex, h, Wp.bind, Wp.sh]
  cases ev Phi k r with
  | ok s r1 =>
    simp only [wp_ok, kSh]
    cases toSh s with
    | none => simp only [WpO, wp_bad]
    | some z =>
      simp only [WpO, kSdf, Wp.bind, Wp.sh]
      cases ev Phi c r1 with
      | ok s2 r2 =>
        simp only [wp_ok, kSh]
        cases toSh s2 with
        | none => simp only [WpO, wp_bad]
        | some y =>
          simp only [WpO, kSdf2]
          cases r2[i]? with
          | none => simp only [wp_bad]
          | some tt =>
          cases tt with
          | dct t kvs =>
            simp only
            by_cases hc : (isKey t z && decide (kvs.length < 16777216)) = true
            · have hc' := hc
              simp only [Bool.and_eq_true, decide_eq_true_eq] at hc'
              simp only [hc, if_true, hc'.1, hc'.2, true_and]
              cases (lookD z kvs).isSome <;> simp [wp_ok]
            · rw [if_neg hc, wp_bad]
              simp only [Bool.and_eq_true, decide_eq_true_eq] at hc
              exact ⟨fun z => z.elim, fun z => hc ⟨z.1, z.2.1⟩⟩
          | _ => simp only [wp_bad]
      | ex _ _ _ => simp only [wp_ex]
      | bad => simp only [wp_bad]
  | ex _ _ _ => simp only [wp_ex]
  | bad => simp only [wp_bad]
end
end Ev
end

section
set_option maxHeartbeats 8000000
set_option Elab.async false
set_option linter.all false
set_option maxRecDepth 100000
namespace Ev
open PySem L2
section
variable (fu : Nat) (Phi : Nat → Ro → FR)
def ddAt (r : Ro) (i : Nat) : Option (List (PyData × List (PyData × PyData))) := match r[i]? with
  | some (.dd kss) => some kss
  | _ => none
def dcAt (r : Ro) (i : Nat) : Option (List (PyData × PyData)) := match r[i]? with
  | some (.dct true kvs) => some kvs
  | _ => none
def tlAt (r : Ro) (i : Nat) : Option (PyData × List PyData) := match r[i]? with
  | some (.tl d ds) => some (d, ds)
  | _ => none
def fnOf : Option Slot → Option Nat
  | some (.sh (.dict [(.int kk, .none)])) => some kk.toNat
  | _ => none
theorem fnOf_fn (k : Nat) : fnOf (some (.sh (fnD k))) = some k := rfl
def fnAt (r : Ro) (i : Nat) : Option Nat := fnOf r[i]?
def nnAt (b : Bool) (r : Ro) (i : Nat) : Option Bool := match r[i]? with
  | some (.sh d) => some (isNon d == b)
  | some (.tl _ _) => some (!b)
  | _ => none
def kSubB (i j : Nat) (z : PyData) (kss : List (PyData × List (PyData × PyData))) (Q : Fl → Ro → Prop) (f : Fl) (r : Ro) : Prop := match f with
  | .nx => WpO (dcAt r j) fun kvs => Q .nx ((r.set j .non).set i (.dd (putDD z kvs kss)))
  | .ret _ => False
def kSub (i j : Nat) (ss : CSs) (Q : Fl → Ro → Prop) (z : PyData) (r : Ro) : Prop := WpO (ddAt r i) fun kss => (isKey false z = true ∧ kss.length < 16777216 ∧ j < r.length ∧ i ≠ j) ∧ Wp (exs fu Phi ss ((r.set i .non).set j (.dct true ((lookDD z kss).getD [])))) (kSubB i j z kss Q) noE
def get0S (t : Bool) (kvs : List (PyData × PyData)) (z : PyData) : Slot := match lookD z kvs with
  | some d => .sh d
  | none => .lst []
def kGet0 (i : Nat) (Q : Slot → Ro → Prop) (z : PyData) (r : Ro) : Prop := match rdO r (.pl i) with
  | some (.dict ((.bool t, .none) :: kvs)) => isKey t z = true ∧ Q (get0S t kvs z) r
  | _ => False
def kBackT (ls : List (Option Nat)) (r a : Ro) (Q : Slot → Ro → Prop) (s : Slot) (o : Ro) : Prop := match s with
  | .sh (.tuple [d, .list ds]) => (okN a && okN o && isNI ds && noNI d) = true ∧ Q (.tl d ds) (putBack ls o r)
  | .sh .none => Q (.sh .none) (putBack ls o r)
  | _ => False
def kCallT (f : Nat) (Q : Slot → Ro → Prop) (x : List Od) (r : Ro) : Prop := WpO (mvs x r) fun p => WpF (Phi f p.1) (kBackT p.2.1 p.2.2 p.1 Q) (fun _ _ _ => False)
def kBackB (r : Ro) (Q : Slot → Ro → Prop) (s : Slot) (_ : Ro) : Prop := match s with
  | .sh d => flatD d = true ∧ Q (.sh d) r
  | _ => False
def kCallB (f : Nat) (Q : Slot → Ro → Prop) (x : List Bo) (r : Ro) : Prop := WpO (vwB r x) fun a => WpF (Phi f a) (kBackB r Q) (fun _ _ _ => False)
def kBoC (b : Bo) (Q : List Bo → Ro → Prop) (x : List Bo) (r : Ro) : Prop := Q (b :: x) r
def kBo (es : CEs) (Q : List Bo → Ro → Prop) (E : XP) (d : PyData) (r : Ro) : Prop := Wp (evB Phi es r) (kBoC (.d d) Q) E
def kTlA (i : Nat) (Q : Fl → Ro → Prop) (y : PyData) (r : Ro) : Prop := WpO (tlAt r i) fun p => p.2.length < 16777216 ∧ Q .nx (r.set i (.tl p.1 (p.2 ++ [y])))
end
section
variable {fu : Nat} {Phi : Nat → Ro → FR} {E : XP} {r : Ro} {Q : Slot → Ro → Prop}
theorem dd_cases (r : Ro) (i : Nat) : (∃ kss, r[i]? = some (.dd kss) ∧ ddAt r i = some kss) ∨ ((∀ kss, r[i]? ≠ some (.dd kss)) ∧ ddAt r i = none) := by
  unfold ddAt
  cases h : r[i]? with
  | none => exact .inr ⟨fun _ z => (nomatch z), rfl⟩
  | some s => cases s <;> first | exact .inl ⟨_, rfl, rfl⟩ | exact .inr ⟨fun _ z => (nomatch z), rfl⟩
theorem tl_cases (r : Ro) (i : Nat) : (∃ d ds, r[i]? = some (.tl d ds) ∧ tlAt r i = some (d, ds)) ∨ ((∀ d ds, r[i]? ≠ some (.tl d ds)) ∧ tlAt r i = none) := by
  unfold tlAt
  cases h : r[i]? with
  | none => exact .inr ⟨fun _ _ z => (nomatch z), rfl⟩
  | some s => cases s <;> first | exact .inl ⟨_, _, rfl, rfl⟩ | exact .inr ⟨fun _ _ z => (nomatch z), rfl⟩
theorem fn_cases (r : Ro) (i : Nat) : (∃ k : Int, r[i]? = some (.sh (.dict [(.int k, .none)])) ∧ fnAt r i = some k.toNat) ∨ ((∀ k : Int, r[i]? ≠ some (.sh (.dict [(.int k, .none)]))) ∧ fnAt r i = none) := by
  by_cases h : ∃ k : Int, r[i]? = some (.sh (.dict [(.int k, .none)]))
  · obtain ⟨k, h⟩ := h
    exact .inl ⟨k, h, by unfold fnAt; rw [h]; rfl⟩
  · refine .inr ⟨fun k z => h ⟨k, z⟩, ?_⟩
    unfold fnAt fnOf
    split
    · rename_i kk e; exact absurd ⟨kk, e⟩ h
    · rfl
theorem wp_sub {i j : Nat} {k : CE} {ss : CSs} {Q : Fl → Ro → Prop} : Wp (exs fu Phi (.sub i j k ss) r) Q E ↔ WpO (ddAt r i) fun _ => Wp (ev Phi k r) (kSh (kSub fu Phi i j ss Q)) E := by
  rcases dd_cases r i with ⟨kss, h, h2⟩ | ⟨h, h2⟩
  case inr =>
    rw [h2]
    simp only [exs, WpO]
    first
    | (split
       · rename_i e; exact absurd e (h _)
       · simp only [wp_bad]
       done)
    | (simp only [wp_bad]; done)
    | simp [wp_bad, h]
  rw [h2]
  simp only [exs, h, WpO, Wp.bind, Wp.sh]
  cases ev Phi k r with
  | ex c fs r1 => simp only [wp_ex]
  | bad => simp only [wp_bad]
  | ok s r1 =>
    simp only [wp_ok, kSh]
    cases toSh s with
    | none => simp only [WpO]
    | some z =>
      simp only [WpO, kSub]
      rcases dd_cases r1 i with ⟨kss1, h, h2⟩ | ⟨h, h2⟩
      case inr =>
        rw [h2]
        first | (simp only [wp_bad]; done) | (split <;> first | (simp only [wp_bad]; done) | (rename_i e; exact absurd e (h _)) | (rename_i e; exact absurd e (h _ _)))
      rw [h2, h]
      simp only
      by_cases hc : (isKey false z && decide (kss1.length < 16777216) && decide (j < r1.length) && decide (i ≠ j)) = true
      · rw [if_pos hc]
        simp only [Bool.and_eq_true, decide_eq_true_eq] at hc
        have hc' : isKey false z = true ∧ kss1.length < 16777216 ∧ j < r1.length ∧ i ≠ j := ⟨hc.1.1.1, hc.1.1.2, hc.1.2, hc.2⟩
        refine Iff.trans ?_ (and_iff_right hc').symm
        cases exs fu Phi ss ((r1.set i .non).set j (.dct true ((lookDD z kss1).getD []))) with
        | ex c fs r2 => simp only [wp_bad, wp_ex, noE]
        | bad => simp only [wp_bad]
        | ok f r2 =>
          cases f with
          | ret s2 => simp only [wp_bad, wp_ok, kSubB]
          | nx =>
            simp only [wp_ok, kSubB, dcAt]
            cases e : r2[j]? with
            | none => simp only [wp_bad, WpO]
            | some s2 => cases s2 with
              | dct t kvs => cases t <;> simp only [wp_bad, wp_ok, WpO]
              | _ => simp only [wp_bad, WpO]
      · rw [if_neg hc]
        simp only [Bool.and_eq_true, decide_eq_true_eq] at hc
        simp only [wp_bad, false_iff]
        rintro ⟨⟨a, b, c, d⟩, _⟩
        exact hc ⟨⟨⟨a, b⟩, c⟩, d⟩
theorem wp_ddn : Wp (ev Phi .ddn r) Q E ↔ Q (.dd []) r := by simp only [ev, wp_ok]
theorem wp_get0 {i : Nat} {k : CE} : Wp (ev Phi (.get0 i k) r) Q E ↔ mTy .get r i = true ∧ Wp (ev Phi k r) (kSh (kGet0 i Q)) E := by
  simp only [ev]
  by_cases h : mTy .get r i = true
  · rw [if_pos h, Wp.bind, Wp.sh]
    refine Iff.trans ?_ (and_iff_right h).symm
    refine iff_of_eq (congrArg (fun q => Wp (ev Phi k r) (kSh q) E) ?_)
    · funext z r1
      unfold kGet0
      generalize rdO r1 (.pl i) = x
      apply propext
      split
      · rename_i t kvs
        by_cases hk : isKey t z = true
        · rw [if_pos hk]
          refine Iff.trans ?_ (and_iff_right hk).symm
          unfold get0S
          cases lookD z kvs <;> simp only [wp_ok]
        · rw [if_neg hk]
          exact ⟨fun q => (wp_bad.mp q).elim, fun q => absurd q.1 hk⟩
      · rename_i hx
        refine ⟨fun q => (wp_bad.mp q).elim, fun q => ?_⟩
        first
        | exact False.elim q
        | (split at q
           · exact (hx _ _ rfl).elim
           · exact q.elim)
  · rw [if_neg h]
    exact ⟨fun q => (wp_bad.mp q).elim, fun q => absurd q.1 h⟩
theorem wp_fnc {k : Nat} : Wp (ev Phi (.fnc k) r) Q E ↔ Q (.sh (fnD k)) r := by simp only [ev, wp_ok]
theorem wp_callV {i : Nat} {es : CEs} : Wp (ev Phi (.callV i es) r) Q E ↔ WpO (fnAt r i) fun f => Wp (evA Phi es r) (kCall Phi f Q E) E := by
  rcases fn_cases r i with ⟨k, h, h2⟩ | ⟨h, h2⟩
  case inr =>
    rw [h2]
    simp only [ev, WpO]
    first | (simp only [wp_bad]; done) | (split <;> first | (simp only [wp_bad]; done) | (rename_i e; exact absurd e (h _)) | (rename_i e; exact absurd e (h _ _)))
  rw [h2]
  simp only [ev, h, WpO, Wp.bind]
  cases evA Phi es r with
  | ex c fs r1 => simp only [wp_ex]
  | bad => simp only [wp_bad]
  | ok x r1 => simp only [wp_ok]; exact call_tail
theorem wp_nn {b : Bool} {i : Nat} : Wp (ev Phi (.nn b i) r) Q E ↔ WpO (nnAt b r i) fun c => Q (.sh (.bool c)) r := by
  simp only [ev, nnAt]
  cases r[i]? with
  | none => simp only [wp_bad, WpO]
  | some s => cases s <;> simp only [wp_ok, wp_bad, WpO]
theorem wp_tlFst {i : Nat} : Wp (ev Phi (.tlFst i) r) Q E ↔ WpO (tlAt r i) fun p => Q (.sh p.1) r := by
  rcases tl_cases r i with ⟨d, ds, h, h2⟩ | ⟨h, h2⟩
  · simp only [ev, h, h2, WpO, wp_ok]
  · rw [h2]
    simp only [ev, WpO]
    first | (simp only [wp_bad]; done) | (split <;> first | (simp only [wp_bad]; done) | (rename_i e; exact absurd e (h _)) | (rename_i e; exact absurd e (h _ _)))
def popT (i : Nat) (Q : Slot → Ro → Prop) (r : Ro) (p : PyData × List PyData) : Prop := match p.2 with
  | y :: ds => Q (.sh y) (r.set i (.tl p.1 ds))
  | [] => False
theorem wp_tlPop0 {i : Nat} : Wp (ev Phi (.tlPop0 i) r) Q E ↔ WpO (tlAt r i) (popT i Q r) := by
  rcases tl_cases r i with ⟨d, ds, h, h2⟩ | ⟨h, h2⟩
  · cases ds <;> simp only [ev, h, h2, WpO, wp_ok, wp_bad, popT]
  · rw [h2]
    simp only [ev, WpO]
    first | (simp only [wp_bad]; done) | (split <;> first | (simp only [wp_bad]; done) | (rename_i e; exact absurd e (h _)) | (rename_i e; exact absurd e (h _ _)))
theorem wp_callT {f : Nat} {es : CEs} : Wp (ev Phi (.callT f es) r) Q E ↔ Wp (evA Phi es r) (kCallT Phi f Q) E := by
  simp only [ev, Wp.bind]
  cases evA Phi es r with
  | ex c fs r1 => simp only [wp_ex]
  | bad => simp only [wp_bad]
  | ok x r1 =>
    simp only [wp_ok, kCallT]
    cases mvs x r1 with
    | none => simp only [wp_bad, WpO]
    | some p =>
      obtain ⟨args, ls, r2⟩ := p
      simp only [WpO]
      cases Phi f args with
      | bad => simp only [wp_bad, wpf_bad]
      | ex c fs o => simp only [wp_bad, wpf_ex]
      | ret s o =>
        simp only [wpf_ret, kBackT]
        split
        · rename_i d ds o' e
          cases e
          by_cases h : (okN args && okN o && isNI ds && noNI d) = true
          · rw [if_pos h]
            simp only [wp_ok, h, true_and]
          · rw [if_neg h]
            simp only [wp_bad, h, false_and, Bool.false_eq_true]
        · rename_i o' e
          cases e
          simp only [wp_ok]
        · rename_i h1 h2
          simp only [wp_bad, false_iff]
          split
          · exact fun _ => h1 _ _ _ rfl
          · exact fun _ => h2 _ rfl
          · exact id
theorem wp_callB {f : Nat} {es : CEs} : Wp (ev Phi (.callB f es) r) Q E ↔ Wp (evB Phi es r) (kCallB Phi f Q) E := by
  simp only [ev, Wp.bind]
  cases evB Phi es r with
  | ex c fs r1 => simp only [wp_ex]
  | bad => simp only [wp_bad]
  | ok x r1 =>
    simp only [wp_ok, kCallB]
    cases vwB r1 x with
    | none => simp only [wp_bad, WpO]
    | some a =>
      simp only [WpO]
      cases Phi f a with
      | bad => simp only [wp_bad, wpf_bad]
      | ex c fs o => simp only [wp_bad, wpf_ex]
      | ret s o =>
        simp only [wpf_ret, kBackB]
        cases s with
        | sh d =>
          simp only
          by_cases h : flatD d = true
          · rw [if_pos h]; simp only [wp_ok, h, true_and]
          · rw [if_neg h]; exact ⟨fun q => (wp_bad.mp q).elim, fun q => absurd q.1 h⟩
        | _ => simp only [wp_bad]
theorem wp_evB_nil {Q : List Bo → Ro → Prop} : Wp (evB Phi .nil r) Q E ↔ Q [] r := by simp only [evB, wp_ok]
theorem wp_evB_ref {i : Nat} {es : CEs} {Q : List Bo → Ro → Prop} : Wp (evB Phi (.cons (.ref i) es) r) Q E ↔ isTn r i = true ∧ Wp (evB Phi es r) (kBoC (.w i) Q) E := by
  simp only [evB]
  by_cases h : isTn r i = true
  · rw [if_pos h]
    refine Iff.trans ?_ (and_iff_right h).symm
    simp only [Wp.bind, wp_ok]; exact Iff.rfl
  · rw [if_neg h]
    exact ⟨fun q => (wp_bad.mp q).elim, fun q => absurd q.1 h⟩
theorem wp_evB_snd {i : Nat} {es : CEs} {Q : List Bo → Ro → Prop} : Wp (evB Phi (.cons (.snd i) es) r) Q E ↔ isTl r i = true ∧ Wp (evB Phi es r) (kBoC (.s i) Q) E := by
  simp only [evB]
  by_cases h : isTl r i = true
  · rw [if_pos h]
    refine Iff.trans ?_ (and_iff_right h).symm
    simp only [Wp.bind, wp_ok]; exact Iff.rfl
  · rw [if_neg h]
    exact ⟨fun q => (wp_bad.mp q).elim, fun q => absurd q.1 h⟩
theorem evB_gen {e : CE} {es : CEs} {Q : List Bo → Ro → Prop} (h : evB Phi (.cons e es) r = (ev Phi e r).sh.bind fun d r1 => (evB Phi es r1).bind fun x r2 => .ok (.d d :: x) r2) : Wp (evB Phi (.cons e es) r) Q E ↔ Wp (ev Phi e r) (kSh (kBo Phi es Q E)) E := by
  rw [h, Wp.bind, Wp.sh]
  have : (fun (d : PyData) (r1 : Ro) => Wp ((evB Phi es r1).bind fun x r2 => .ok (.d d :: x) r2) Q E) = kBo Phi es Q E := by
    funext d r1
    simp only [kBo, Wp.bind, wp_ok]; rfl
  rw [this]
theorem wp_evB_cst {d : PyData} {es : CEs} {Q : List Bo → Ro → Prop} : Wp (evB Phi (.cons (.cst d) es) r) Q E ↔ Wp (ev Phi (.cst d) r) (kSh (kBo Phi es Q E)) E := evB_gen (by simp only [evB])
theorem wp_evB_var {i : Nat} {es : CEs} {Q : List Bo → Ro → Prop} : Wp (evB Phi (.cons (.var i) es) r) Q E ↔ Wp (ev Phi (.var i) r) (kSh (kBo Phi es Q E)) E := evB_gen (by simp only [evB])
theorem wp_evB_fnc {k : Nat} {es : CEs} {Q : List Bo → Ro → Prop} : Wp (evB Phi (.cons (.fnc k) es) r) Q E ↔ Wp (ev Phi (.fnc k) r) (kSh (kBo Phi es Q E)) E := evB_gen (by simp only [evB])
theorem wp_evB_op {o : Op} {cs es : CEs} {Q : List Bo → Ro → Prop} : Wp (evB Phi (.cons (.op o cs) es) r) Q E ↔ Wp (ev Phi (.op o cs) r) (kSh (kBo Phi es Q E)) E := evB_gen (by simp only [evB])
theorem wp_evA_fnc {k : Nat} {es : CEs} {Q : List Od → Ro → Prop} : Wp (evA Phi (.cons (.fnc k) es) r) Q E ↔ Wp (ev Phi (.fnc k) r) (kDA Phi es Q E) E := evA_gen (by simp only [evA])
theorem wp_rds_tlFst {i : Nat} {es : CEs} {Q : List Od → Ro → Prop} : Wp (rds Phi (.cons (.tlFst i) es) r) Q E ↔ Wp (ev Phi (.tlFst i) r) (kDs Phi es Q E) E := rds_gen (by simp only [rds])
theorem wp_rds_callB {f : Nat} {cs es : CEs} {Q : List Od → Ro → Prop} : Wp (rds Phi (.cons (.callB f cs) es) r) Q E ↔ Wp (ev Phi (.callB f cs) r) (kDs Phi es Q E) E := rds_gen (by simp only [rds])
theorem wp_rds_callV {f : Nat} {cs es : CEs} {Q : List Od → Ro → Prop} : Wp (rds Phi (.cons (.callV f cs) es) r) Q E ↔ Wp (ev Phi (.callV f cs) r) (kDs Phi es Q E) E := rds_gen (by simp only [rds])
theorem wp_evI_get0 {i : Nat} {k : CE} {Q : List PyData × List Lk → Ro → Prop} : Wp (evI Phi (.seq (.get0 i k)) r) Q E ↔ Wp (ev Phi (.get0 i k) r) (kSh (kSeqI Q E)) E := evI_gen (by simp only [evI])
theorem wp_rds_get0 {i : Nat} {k : CE} {es : CEs} {Q : List Od → Ro → Prop} : Wp (rds Phi (.cons (.get0 i k) es) r) Q E ↔ Wp (ev Phi (.get0 i k) r) (kDs Phi es Q E) E := rds_gen (by simp only [rds])
theorem wp_ret_nn {b : Bool} {i : Nat} {Q : Fl → Ro → Prop} : Wp (ex fu Phi (.ret (.nn b i)) r) Q E ↔ Wp (ev Phi (.nn b i) r) (kRet Q) E := ret_gen (by simp only [ex])
theorem wp_ret_callV {i : Nat} {es : CEs} {Q : Fl → Ro → Prop} : Wp (ex fu Phi (.ret (.callV i es)) r) Q E ↔ Wp (ev Phi (.callV i es) r) (kRet Q) E := ret_gen (by simp only [ex])
theorem wp_tlApp {i : Nat} {c : CE} {Q : Fl → Ro → Prop} : Wp (ex fu Phi (.tlApp i c) r) Q E ↔ WpO (tlAt r i) fun _ => Wp (ev Phi c r) (kSh (kTlA i Q)) E := by
  rcases tl_cases r i with ⟨d, ds, h, h2⟩ | ⟨h, h2⟩
  case inr =>
    rw [h2]
    simp only [ex, WpO]
    first | (simp only [wp_bad]; done) | (split <;> first | (simp only [wp_bad]; done) | (rename_i e; exact absurd e (h _)) | (rename_i e; exact absurd e (h _ _)))
  rw [h2]
  simp only [ex, h, WpO, Wp.bind, Wp.sh]
  cases ev Phi c r with
  | ex c fs r1 => simp only [wp_ex]
  | bad => simp only [wp_bad]
  | ok s r1 =>
    simp only [wp_ok, kSh]
    cases toSh s with
    | none => simp only [WpO]
    | some y =>
      simp only [WpO, kTlA]
      rcases tl_cases r1 i with ⟨d, ds, h, h2⟩ | ⟨h, h2⟩
      · rw [h2, h]
        simp only
        by_cases hl : ds.length < 16777216
        · simp only [hl, decide_true, if_true, wp_ok, true_and]
        · simp only [hl, decide_false, Bool.false_eq_true, if_false, wp_bad, false_and]
      · rw [h2]
        first | (simp only [wp_bad]; done) | (split <;> first | (simp only [wp_bad]; done) | (rename_i e; exact absurd e (h _)) | (rename_i e; exact absurd e (h _ _)))
theorem wp_tlRev {i : Nat} {Q : Fl → Ro → Prop} : Wp (ex fu Phi (.tlRev i) r) Q E ↔ WpO (tlAt r i) fun p => Q .nx (r.set i (.tl p.1 p.2.reverse)) := by
  rcases tl_cases r i with ⟨d, ds, h, h2⟩ | ⟨h, h2⟩
  · simp only [ex, h, h2, WpO, wp_ok]
  · rw [h2]
    simp only [ex, WpO]
    first | (simp only [wp_bad]; done) | (split <;> first | (simp only [wp_bad]; done) | (rename_i e; exact absurd e (h _)) | (rename_i e; exact absurd e (h _ _)))
theorem wp_tlClr {i : Nat} {Q : Fl → Ro → Prop} : Wp (ex fu Phi (.tlClr i) r) Q E ↔ WpO (tlAt r i) fun p => Q .nx (r.set i (.tl p.1 [])) := by
  rcases tl_cases r i with ⟨d, ds, h, h2⟩ | ⟨h, h2⟩
  · simp only [ex, h, h2, WpO, wp_ok]
  · rw [h2]
    simp only [ex, WpO]
    first | (simp only [wp_bad]; done) | (split <;> first | (simp only [wp_bad]; done) | (rename_i e; exact absurd e (h _)) | (rename_i e; exact absurd e (h _ _)))
end
end Ev
end

section
set_option maxHeartbeats 8000000
set_option Elab.async false
set_option linter.all false
set_option maxRecDepth 100000
namespace Ev
open PySem L2
theorem pFdivI {i j : Int} (h : 0 < j) (h2 : j < 1000000000000000000000000000000) : pFdiv [.int i, .int j] = some (.sh (.int (i / j))) := by simp [pFdiv, h, h2]
theorem pModI {i j : Int} (h : 0 < j) : pMod [.int i, .int j] = some (.sh (.int (i % j))) := by simp [pMod, h]
theorem pMulI {i j : Int} (h : i.natAbs < 18446744073709551616 ∨ j.natAbs < 18446744073709551616) : pMul [.int i, .int j] = some (.sh (.int (i * j))) := by
  show (if _ then _ else _) = _
  rw [if_pos]
  simp only [Bool.or_eq_true, decide_eq_true_eq]
  exact h
theorem pPowI {i j : Int} (h : 0 ≤ j) (h2 : j ≤ 1000000) (h3 : i.natAbs < 18446744073709551616) : pPow [.int i, .int j] = some (.sh (.int (i ^ j.toNat))) := by
  show (if _ then _ else _) = _
  rw [if_pos]
  simp only [Bool.and_eq_true, decide_eq_true_eq]
  exact ⟨⟨h, h2⟩, h3⟩
theorem shp_int (i : Int) : shp (.int i) = true := by rfl
theorem pEqI {i j : Int} : pEq [.int i, .int j] = some (.sh (.bool (decide (i = j)))) := by
  simp only [pEq, pNe, shp_int, PyData.eqv, Bool.and_self, if_true]; rfl
theorem pNeI {i j : Int} : pNe [.int i, .int j] = some (.sh (.bool (!decide (i = j)))) := by
  simp only [pEq, pNe, shp_int, PyData.eqv, Bool.and_self, if_true]; rfl
theorem seqI_L {ds : List PyData} {l : List Lk} {r : Ro} : seqI (.list ds) l r = .ok (ds, l) r := rfl
theorem seqI_U {ds : List PyData} {l : List Lk} {r : Ro} : seqI (.tuple ds) l r = .ok (ds, l) r := rfl
theorem pIsiN {t : String} : pIsi t [.none] = (tyD .none t).map fun b => .sh (.bool b) := rfl
theorem pIsiB {t : String} {b : Bool} : pIsi t [.bool b] = (tyD (.bool b) t).map fun b => .sh (.bool b) := rfl
theorem pIsiI {t : String} {i : Int} : pIsi t [.int i] = (tyD (.int i) t).map fun b => .sh (.bool b) := rfl
theorem pIsiS {t : String} {s : Str} : pIsi t [.str s] = (tyD (.str s) t).map fun b => .sh (.bool b) := rfl
theorem pIsiL {t : String} {l : List PyData} : pIsi t [.list l] = (tyD (.list l) t).map fun b => .sh (.bool b) := rfl
theorem pIsiU {t : String} {l : List PyData} : pIsi t [.tuple l] = (tyD (.tuple l) t).map fun b => .sh (.bool b) := rfl
theorem pIsiD {t : String} {l : List (PyData × PyData)} : pIsi t [.dict l] = (tyD (.dict l) t).map fun b => .sh (.bool b) := rfl
theorem pSubI {i j : Int} : pSub [.int i, .int j] = some (.sh (.int (i - j))) := rfl
theorem pRevL {l : List PyData} : pRev [.list l] = some (.lst l.reverse) := rfl
theorem pLtI {i j : Int} : pLt [.int i, .int j] = some (.sh (.bool (decide (i < j)))) := rfl
theorem pLeI {i j : Int} : pLe [.int i, .int j] = some (.sh (.bool (decide (i ≤ j)))) := rfl
theorem pGtI {i j : Int} : pGt [.int i, .int j] = some (.sh (.bool (decide (j < i)))) := rfl
theorem pGeI {i j : Int} : pGe [.int i, .int j] = some (.sh (.bool (decide (j ≤ i)))) := rfl
theorem atI_0 {α : Type} {a : α} {l : List α} : atI (a :: l) 0 = some a := by simp [atI, ixN]
theorem atI_nat {α : Type} {l : List α} {n : Nat} (h : n < l.length) : atI l (n : Int) = l[n]? := by
  have h2 : (n : Int) < (l.length : Int) := by omega
  simp [atI, ixN, h2]
theorem atI_s {α : Type} {a b : α} {l : List α} : atI (a :: b :: l) 1 = some b := by
  have h2 : (1 : Int) < ((a :: b :: l).length : Int) := by simp only [List.length_cons]; omega
  unfold atI ixN
  rw [if_pos (by decide), if_pos h2]
  rfl
theorem atI_m1 {α : Type} {a : α} : atI [a] (-1) = some a := by simp [atI, ixN]
theorem ixN_0 {n : Nat} (h : 0 < n) : ixN n 0 = some 0 := by
  have : (0 : Int) < (n : Int) := by omega
  unfold ixN
  rw [if_pos (by decide), if_pos this]
  rfl
theorem ixN_1 {n : Nat} (h : 1 < n) : ixN n 1 = some 1 := by
  have : (1 : Int) < (n : Int) := by omega
  unfold ixN
  rw [if_pos (by decide), if_pos this]
  rfl
theorem ixN_m1 {n : Nat} (h : 0 < n) : ixN n (-1) = some (n - 1) := by
  have h1 : ¬ (0 : Int) ≤ -1 := by decide
  have h2 : -(n : Int) ≤ -1 := by omega
  have h3 : (-1 + (n : Int)).toNat = n - 1 := by omega
  simp only [ixN, if_neg h1, if_pos h2, h3]
theorem ixN_nat {n k : Nat} (h : k < n) : ixN n (k : Int) = some k := by
  have : (k : Int) < (n : Int) := by omega
  simp [ixN, this]
theorem in62_of {n : Int} (h0 : -1000000000 ≤ n) (h1 : n ≤ 1000000000) : in62 n = true := by
  simp only [in62, Bool.and_eq_true, decide_eq_true_eq]
  omega
theorem small_of {n : Nat} (h : n ≤ 16777216) : small n = true := decide_eq_true h
theorem pAddI {i j : Int} : pAdd [.int i, .int j] = some (.sh (.int (i + j))) := rfl
theorem pAddL {a b : List PyData} (h : a.length + b.length ≤ 16777216) : pAdd [.list a, .list b] = some (.lst (a ++ b)) := by
  show (if _ then _ else _) = _
  rw [if_pos (small_of h)]
theorem pAddT {a b : List PyData} (h : a.length + b.length ≤ 16777216) : pAdd [.tuple a, .tuple b] = some (.sh (.tuple (a ++ b))) := by
  show (if _ then _ else _) = _
  rw [if_pos (small_of h)]
theorem rg1T {n : Int} (h0 : -1000000000 ≤ n) (h1 : n ≤ 16777216) : rgA n = True := by
  unfold rgA
  rw [in62_of h0 (by omega), small_of (by omega)]
  simp
theorem rg2T {m n : Int} (h0 : -1000000000 ≤ m) (h1 : m ≤ 1000000000) (h2 : -1000000000 ≤ n) (h3 : n ≤ 1000000000) (h4 : n - m ≤ 16777216) : rgB m n = True := by
  unfold rgB
  rw [in62_of h0 h1, in62_of h2 h3, small_of (by omega)]
  simp
theorem rg3T {m n : Int} (h0 : -1000000000 ≤ m) (h1 : m ≤ 1000000000) (h2 : -1000000000 ≤ n) (h3 : n ≤ 1000000000) (h4 : m - n ≤ 16777216) : rgC3 m n = True := by
  unfold rgC3
  rw [in62_of h0 h1, in62_of h2 h3, small_of (by omega)]
  simp
theorem smallT {n : Nat} (h : n ≤ 16777216) : (small n = true) = True := by rw [small_of h]; simp
theorem ltT {n : Nat} (h : n < 16777216) : (n < 16777216) = True := by simp [h]
theorem toNat_nat (n : Nat) : ((n : Int)).toNat = n := Int.toNat_natCast n
theorem pListL {a : List PyData} : pList [.list a] = some (.lst a) := rfl
theorem pListU {a : List PyData} : pList [.tuple a] = some (.lst a) := rfl
theorem pTupL {a : List PyData} : pTuple [.list a] = some (.sh (.tuple a)) := rfl
theorem pTupU {a : List PyData} : pTuple [.tuple a] = some (.sh (.tuple a)) := rfl
theorem pLenLL {a : List PyData} : pLen [.list a] = some (.sh (.int a.length)) := rfl
theorem pLenU {a : List PyData} : pLen [.tuple a] = some (.sh (.int a.length)) := rfl
theorem pLenS {ns : List Int} : pLen [scrD ns] = some (.sh (.int ns.length)) := by
  show some (Slot.sh (.int ((ns.map PyData.int).length : Nat))) = _
  rw [List.length_map]
theorem pLenD {t : Bool} {kvs : List (PyData × PyData)} : pLen [.dict ((.bool t, .none) :: kvs)] = some (.sh (.int kvs.length)) := rfl
theorem pItemL {a : List PyData} {i : Int} : pItem [.list a, .int i] = (atI a i).map .sh := rfl
theorem pItemU {a : List PyData} {i : Int} : pItem [.tuple a, .int i] = (atI a i).map .sh := rfl
theorem pItemS {ns : List Int} {i : Int} : pItem [scrD ns, .int i] = (atI (ns.map PyData.int) i).map .sh := rfl
theorem pMaxI {i j : Int} : pMax2 [.int i, .int j] = some (.sh (.int (if j > i then j else i))) := rfl
theorem pMinI {i j : Int} : pMin2 [.int i, .int j] = some (.sh (.int (if j < i then j else i))) := rfl
theorem pIntI {i : Int} : pInt [.int i] = some (.sh (.int i)) := rfl
theorem pIntB {b : Bool} : pInt [.bool b] = some (.sh (.int (if b then 1 else 0))) := rfl
def PoolOk (l : List PyData) : Prop := ∃ c s, l = [.int c, .int s] ∧ 0 ≤ c ∧ 0 ≤ s ∧ s < 2147483647
def TakeS (P : Ro → FR) : Prop := ∀ (l : List PyData) (n : Int), PoolOk l → 0 < n → n < 1000000000000000000000000000000 →
  WpF (P [.lst l, .sh (.int n)]) (fun v o => ∃ (x : Nat) (l' : List PyData), v = .sh (.int x) ∧ o = [.lst l', .sh (.int n)] ∧ (x : Int) < n ∧ PoolOk l') noE
def PoolS (P : Ro → FR) : Prop := ∀ (ns : List Int) (j : Nat), j < 64 → ns.length ≤ 63 →
  WpF (P [.sh (scrD ns), .sh (.int j)]) (fun v o => ∃ l, v = .lst l ∧ o = [.sh (scrD ns), .sh (.int j)] ∧ PoolOk l) noE
theorem scr_at {ns : List Int} {j : Nat} (h : j < ns.length) : atI (ns.map PyData.int) (j : Int) = some (.int (ns.getD j 0)) := by
  rw [atI_nat (by simpa using h)]
  simp [h]
theorem mod_nn (a : Int) {n : Int} (h : 0 < n) : 0 ≤ a % n := Int.emod_nonneg a (by omega)
theorem mod_lt (a : Int) {n : Int} (h : 0 < n) : a % n < n := Int.emod_lt_of_pos a h
theorem toSh_sh {d : PyData} : toSh (.sh d) = some d := rfl
theorem toSh_lst {ds : List PyData} : toSh (.lst ds) = some (.list ds) := rfl
theorem toSh_dct {t : Bool} {kvs : List (PyData × PyData)} : toSh (.dct t kvs) = some (dictD t kvs) := rfl
theorem asg_name {i : Nat} {d : PyData} {r : Ro} : asg (.name i) d r = asgN i (.sh d) r := by simp only [asg]
theorem asg_tupU {ts : CTs} {ds : List PyData} {r : Ro} : asg (.tup ts) (.tuple ds) r = asgs ts ds r := by simp only [asg]
theorem asgs_nil {r : Ro} : asgs .nil [] r = some r := by simp only [asgs]
theorem asgs_cons {t : CT} {ts : CTs} {d : PyData} {ds : List PyData} {r : Ro} : asgs (.cons t ts) (d :: ds) r = (match asg t d r with | some r' => asgs ts ds r' | none => none) := by first | (simp only [asgs]; done) | (simp only [asgs]; cases asg t d r <;> rfl)
def takeS : Nat → CSs → CSs
  | 0, _ => .nil
  | _ + 1, .nil => .nil
  | n + 1, .cons s b => .cons s (takeS n b)
  | _ + 1, .sub i j k b => .sub i j k b
def dropS : Nat → CSs → CSs
  | 0, b => b
  | _ + 1, .nil => .nil
  | n + 1, .cons _ b => dropS n b
  | _ + 1, .sub _ _ _ _ => .nil
theorem wp_cut {fu : Nat} {Phi : Nat → Ro → FR} {Q : Fl → Ro → Prop} {E : XP} : ∀ (n : Nat) {b : CSs} {r : Ro}, Wp (exs fu Phi (takeS n b) r) (kSeq fu Phi (dropS n b) Q E) E → Wp (exs fu Phi b r) Q E
  | 0, b, r, h => by simpa only [takeS, dropS, wp_exs_nil, kSeq_nx] using h
  | n + 1, .nil, r, h => by simpa only [takeS, dropS, wp_exs_nil, kSeq_nx] using h
  | n + 1, .sub i j k b, r, h => by
    simp only [takeS, dropS] at h
    refine h.imp (fun f q h => ?_) fun _ _ _ z => z
    cases f with
    | nx => rw [kSeq_nx, wp_exs_nil] at h; exact h
    | ret s => rw [kSeq_ret] at h; exact h
  | n + 1, .cons s b, r, h => by
    simp only [takeS, dropS, wp_exs_cons] at h ⊢
    refine h.imp (fun f q h => ?_) fun _ _ _ z => z
    cases f with
    | nx =>
      rw [kSeq_nx] at h ⊢
      exact wp_cut n h
    | ret s => rw [kSeq_ret] at h ⊢; rw [kSeq_ret] at h; exact h
def kMid (M : Ro → Prop) (Q : Fl → Ro → Prop) (f : Fl) (q : Ro) : Prop := match f with
  | .nx => M q
  | .ret s => Q (.ret s) q
theorem kMid_nx {M : Ro → Prop} {Q : Fl → Ro → Prop} {q : Ro} : kMid M Q .nx q ↔ M q := Iff.rfl
theorem kMid_ret {M : Ro → Prop} {Q : Fl → Ro → Prop} {s : Slot} {q : Ro} : kMid M Q (.ret s) q ↔ Q (.ret s) q := Iff.rfl
theorem wp_mid {fu : Nat} {Phi : Nat → Ro → FR} {Q : Fl → Ro → Prop} {E : XP} {b : CSs} {r : Ro} (n : Nat) (M : Ro → Prop) (h1 : Wp (exs fu Phi (takeS n b) r) (kMid M Q) E) (h2 : ∀ q, M q → Wp (exs fu Phi (dropS n b) q) Q E) : Wp (exs fu Phi b r) Q E := by
  refine wp_cut n (h1.imp (fun f q h => ?_) fun _ _ _ z => z)
  cases f with
  | nx => rw [kSeq_nx]; exact h2 q h
  | ret s => rw [kSeq_ret]; exact h
theorem wp_turnsD {Q : Fl → Ro → Prop} {E : XP} {r : Ro} {step : PyData → Ro → R Fl} (I : List PyData → Ro → Prop) {xs : List PyData} (h0 : I [] r)
    (hs : ∀ pre x post q, xs = pre ++ x :: post → I pre q → Wp (step x q) (fun f q' => match f with | .nx => I (pre ++ [x]) q' | .ret s => Q (.ret s) q') E)
    (he : ∀ q, I xs q → Q .nx q) : Wp (turns step xs r) Q E := by
  have := wp_turns (step := step) (Q := Q) (E := E) (r := r) (id : PyData → PyData) I xs h0 hs he
  rwa [List.map_id] at this
theorem sIx_nat (n d k : Nat) : HT.sIx n d (some (k : Int)) = min k n := by
  have h : ¬ ((k : Int) < 0) := by omega
  simp [HT.sIx, h]
theorem cut_from (ds : List PyData) (k : Nat) : cutD ds (some (k : Int)) none = ds.drop k := by
  unfold cutD
  rw [sIx_nat]
  show (ds.drop (min k ds.length)).take (ds.length - min k ds.length) = _
  rw [List.take_of_length_le (by simp)]
  by_cases h : k ≤ ds.length
  · rw [Nat.min_eq_left h]
  · rw [Nat.min_eq_right (by omega), List.drop_length, List.drop_eq_nil_of_le (by omega)]
theorem cut_to (ds : List PyData) (k : Nat) : cutD ds none (some (k : Int)) = ds.take k := by
  unfold cutD
  rw [sIx_nat]
  show (ds.drop 0).take (min k ds.length - 0) = _
  rw [List.drop_zero, Nat.sub_zero]
  by_cases h : k ≤ ds.length
  · rw [Nat.min_eq_left h]
  · rw [Nat.min_eq_right (by omega), List.take_length, List.take_of_length_le (by omega)]
theorem cut_fromto (ds : List PyData) (i j : Nat) : cutD ds (some (i : Int)) (some (j : Int)) = (ds.take j).drop i := by
  unfold cutD
  rw [sIx_nat, sIx_nat]
  apply List.ext_getElem?
  intro k
  simp only [List.getElem?_take, List.getElem?_drop]
  by_cases h : i ≤ ds.length
  · rw [show min i ds.length = i by omega]
    by_cases h2 : k < min j ds.length - i
    · rw [if_pos h2, if_pos (by omega)]
    · rw [if_neg h2]
      split
      · rw [List.getElem?_eq_none (by omega)]
      · rfl
  · rw [show min i ds.length = ds.length by omega]
    rw [if_neg (by omega)]
    split
    · rw [List.getElem?_eq_none (by omega)]
    · rfl
theorem pSlUlo {ds : List PyData} {k : Nat} : pSl true false [.tuple ds, .int (k : Int)] = some (.sh (.tuple (ds.drop k))) := by show some (Slot.sh (.tuple (cutD ds (some (k : Int)) none))) = _; rw [cut_from]
theorem pSlUhi {ds : List PyData} {k : Nat} : pSl false true [.tuple ds, .int (k : Int)] = some (.sh (.tuple (ds.take k))) := by show some (Slot.sh (.tuple (cutD ds none (some (k : Int))))) = _; rw [cut_to]
theorem pSlLlo {ds : List PyData} {k : Nat} : pSl true false [.list ds, .int (k : Int)] = some (.lst (ds.drop k)) := by show some (Slot.lst (cutD ds (some (k : Int)) none)) = _; rw [cut_from]
theorem pSlLhi {ds : List PyData} {k : Nat} : pSl false true [.list ds, .int (k : Int)] = some (.lst (ds.take k)) := by show some (Slot.lst (cutD ds none (some (k : Int)))) = _; rw [cut_to]
theorem pSlUlo1 {ds : List PyData} : pSl true false [.tuple ds, .int 1] = some (.sh (.tuple (ds.drop 1))) := pSlUlo (k := 1)
theorem pSlUhi1 {ds : List PyData} : pSl false true [.tuple ds, .int 1] = some (.sh (.tuple (ds.take 1))) := pSlUhi (k := 1)
theorem pSlLlo1 {ds : List PyData} : pSl true false [.list ds, .int 1] = some (.lst (ds.drop 1)) := pSlLlo (k := 1)
theorem pSlLhi1 {ds : List PyData} : pSl false true [.list ds, .int 1] = some (.lst (ds.take 1)) := pSlLhi (k := 1)
theorem cutP_L {ds : List PyData} {i j : Nat} : cutP (.list ds) (some (i : Int)) (some (j : Int)) = some (.lst ((ds.take j).drop i)) := by show some (Slot.lst (cutD ds (some (i : Int)) (some (j : Int)))) = _; rw [cut_fromto]
theorem cutP_U {ds : List PyData} {i j : Nat} : cutP (.tuple ds) (some (i : Int)) (some (j : Int)) = some (.sh (.tuple ((ds.take j).drop i))) := by show some (Slot.sh (.tuple (cutD ds (some (i : Int)) (some (j : Int))))) = _; rw [cut_fromto]
theorem pRevU {l : List PyData} : pRev [.tuple l] = some (.sh (.tuple l.reverse)) := rfl
theorem log2_small {i : Int} (h : i.natAbs < 18446744073709551616) : i.natAbs.log2 < 1920 := by
  by_cases h0 : i.natAbs = 0
  · rw [h0]; decide
  · exact (Nat.log2_lt h0).mpr (Nat.lt_of_lt_of_le (show i.natAbs < 2 ^ 64 from h) (Nat.pow_le_pow_right (by decide) (by decide)))
theorem pStrI {i : Int} (h : i.natAbs < 18446744073709551616) : pStr [.int i] = some (.sh (.str (toString i))) := by
  show (if decide (i.natAbs.log2 < 1920) = true then _ else _) = _
  rw [if_pos (decide_eq_true (log2_small h))]
theorem cnt_of (ns : List Int) (m : Nat) (h1 : 1 ≤ m) : ∃ cnt : Nat, (if (if (m : Int) < (ns.length : Int) then (m : Int) else (ns.length : Int)) > 1 then (if (m : Int) < (ns.length : Int) then (m : Int) else (ns.length : Int)) else 1) = (cnt : Int) ∧ 1 ≤ cnt ∧ cnt ≤ m := by
  by_cases h : (m : Int) < (ns.length : Int)
  · rw [if_pos h]
    split
    · exact ⟨m, rfl, h1, by omega⟩
    · exact ⟨1, rfl, by omega, by omega⟩
  · rw [if_neg h]
    split
    · exact ⟨ns.length, rfl, by omega, by omega⟩
    · exact ⟨1, rfl, by omega, by omega⟩
theorem fm_some {α β : Type} (f : α → β) (l : List α) : l.filterMap (fun x => some (f x)) = l.map f := congrFun List.filterMap_eq_map _
theorem run_fn {fu : Nat} {T : List Fn} {i k : Nat} {F : Fn} (h : T[i]? = some F) : run fu T (k + 1) i = runF fu (run fu T k) F := by
  funext args
  exact run_succ h
end Ev
end

section
set_option maxHeartbeats 8000000
set_option linter.all false
namespace Mc
def rng (lo m : Int) : List Int := (List.range (m - lo).toNat).map fun (k : Nat) => lo + (k : Int)
theorem mem_rng {lo m x : Int} : x ∈ rng lo m ↔ lo ≤ x ∧ x < m := by
  unfold rng
  rw [List.mem_map]
  constructor
  · rintro ⟨k, hk, rfl⟩
    have := List.mem_range.mp hk
    omega
  · intro h
    exact ⟨(x - lo).toNat, List.mem_range.mpr (by omega), by omega⟩
theorem rng_nil {lo m : Int} (h : m ≤ lo) : rng lo m = [] := by
  have : (m - lo).toNat = 0 := by omega
  simp [rng, this]
theorem rng_cons {lo m : Int} (h : lo < m) : rng lo m = lo :: rng (lo + 1) m := by
  have e : (m - lo).toNat = (m - (lo + 1)).toNat + 1 := by omega
  unfold rng
  rw [e, List.range_succ_eq_map, List.map_cons, List.map_map]
  congr 1
  · simp
  · apply List.map_congr_left
    intro k _
    simp only [Function.comp]
    omega
theorem rng_pairwise (lo m : Int) : (rng lo m).Pairwise (· < ·) := by
  unfold rng
  rw [List.pairwise_map]
  refine List.Pairwise.imp ?_ List.pairwise_lt_range
  intro a b h
  omega

def chs (m : Int) : Nat → Int → List (List Int)
  | 0, _ => [[]]
  | s + 1, lo => (rng lo m).flatMap fun x => (chs m s (x + 1)).map (x :: ·)
def Rise (m : Int) : Int → List Int → Prop
  | _, [] => True
  | lo, x :: t => lo ≤ x ∧ x < m ∧ Rise m (x + 1) t
theorem mem_chs {m : Int} : ∀ {s : Nat} {lo : Int} {t : List Int}, t ∈ chs m s lo ↔ t.length = s ∧ Rise m lo t
  | 0, lo, t => by
    unfold chs
    constructor
    · intro h; rw [List.mem_singleton] at h; subst h; exact ⟨rfl, trivial⟩
    · intro ⟨h, _⟩; rw [List.length_eq_zero_iff] at h; subst h; exact List.mem_singleton.mpr rfl
  | s + 1, lo, t => by
    unfold chs
    rw [List.mem_flatMap]
    constructor
    · rintro ⟨x, hx, ht⟩
      obtain ⟨u, hu, rfl⟩ := List.mem_map.mp ht
      obtain ⟨h1, h2⟩ := mem_chs.mp hu
      have := mem_rng.mp hx
      exact ⟨by simp [h1], this.1, this.2, h2⟩
    · intro ⟨h1, h2⟩
      cases t with
      | nil => cases h1
      | cons x u =>
        obtain ⟨a, b, c⟩ := h2
        exact ⟨x, mem_rng.mpr ⟨a, b⟩, List.mem_map.mpr ⟨u, mem_chs.mpr ⟨by simpa using h1, c⟩, rfl⟩⟩
theorem chs_pairwise {m : Int} : ∀ (s : Nat) (lo : Int), (chs m s lo).Pairwise (· < ·)
  | 0, _ => by unfold chs; exact List.pairwise_singleton _ _
  | s + 1, lo => by
    unfold chs
    rw [List.pairwise_flatMap]
    refine ⟨fun x _ => ?_, List.Pairwise.imp ?_ (rng_pairwise lo m)⟩
    · rw [List.pairwise_map]
      refine List.Pairwise.imp ?_ (chs_pairwise s (x + 1))
      intro a b h
      exact List.cons_lt_cons_iff.mpr (.inr ⟨rfl, h⟩)
    · intro a b h x hx y hy
      obtain ⟨u, _, rfl⟩ := List.mem_map.mp hx
      obtain ⟨v, _, rfl⟩ := List.mem_map.mp hy
      exact List.cons_lt_cons_iff.mpr (.inl h)
theorem nodup_of_lt {l : List (List Int)} (h : l.Pairwise (· < ·)) : l.Nodup := List.Pairwise.imp (fun h e => by subst e; exact List.lt_irrefl _ h) h
theorem chs_nodup {m : Int} (s : Nat) (lo : Int) : (chs m s lo).Nodup := nodup_of_lt (chs_pairwise s lo)

theorem rise_lt {m : Int} : ∀ {t : List Int} {lo : Int}, Rise m lo t → ∀ y ∈ t, lo ≤ y ∧ y < m
  | [], _, _, y, h => nomatch h
  | x :: t, lo, ⟨a, b, c⟩, y, h => by
    rcases List.mem_cons.mp h with rfl | h
    · exact ⟨a, b⟩
    · have := rise_lt c y h
      omega
theorem rise_length {m : Int} : ∀ {t : List Int} {lo : Int}, Rise m lo t → lo ≤ m → (t.length : Int) ≤ m - lo
  | [], lo, _, h => by simp; omega
  | x :: t, lo, ⟨a, b, c⟩, h => by
    have := rise_length c (by omega)
    simp only [List.length_cons]
    omega

def ext (m : Int) (t : List Int) : List (List Int) := (rng ((-1 :: t).getLast (by simp) + 1) m).map fun x => t ++ [x]
theorem chs_ext {m : Int} : ∀ (s : Nat) (lo : Int), chs m (s + 1) lo = (chs m s lo).flatMap fun t => (rng (((lo - 1) :: t).getLast (by simp) + 1) m).map fun x => t ++ [x]
  | 0, lo => by
    simp only [chs, List.flatMap_cons, List.flatMap_nil, List.append_nil, List.map_cons, List.map_nil, List.getLast_singleton, List.nil_append]
    have : lo - 1 + 1 = lo := by omega
    rw [this]
    induction rng lo m with
    | nil => rfl
    | cons x l ih => simp [List.flatMap_cons, ih]
  | s + 1, lo => by
    rw [show chs m (s + 1 + 1) lo = (rng lo m).flatMap fun x => (chs m (s + 1) (x + 1)).map (x :: ·) from rfl]
    rw [show chs m (s + 1) lo = (rng lo m).flatMap fun x => (chs m s (x + 1)).map (x :: ·) from rfl]
    rw [List.flatMap_assoc]
    congr 1
    funext x
    rw [chs_ext s (x + 1), List.map_flatMap, List.flatMap_map]
    congr 1
    funext t
    rw [List.map_map]
    have e : ((lo - 1) :: x :: t).getLast (by simp) = ((x + 1 - 1) :: t).getLast (by simp) := by
      rw [List.getLast_cons (by simp)]
      congr 1
      simp
    rw [e]
    rfl
theorem chs_ext0 (m : Int) (s : Nat) : chs m (s + 1) 0 = (chs m s 0).flatMap (ext m) := chs_ext s 0
theorem chs_len_le {m : Int} : ∀ (s : Nat) (lo : Int), (chs m s lo).length ≤ 2 ^ (m - lo).toNat
  | 0, lo => by simp [chs]; exact Nat.one_le_two_pow
  | s + 1, lo => by
    by_cases h : lo < m
    · have e : chs m (s + 1) lo = (chs m s (lo + 1)).map (lo :: ·) ++ chs m (s + 1) (lo + 1) := by
        show ((rng lo m).flatMap fun x => (chs m s (x + 1)).map (x :: ·)) = _
        rw [rng_cons h, List.flatMap_cons]
        rfl
      rw [e, List.length_append, List.length_map]
      have h1 := chs_len_le (m := m) s (lo + 1)
      have h2 := chs_len_le (m := m) (s + 1) (lo + 1)
      have e2 : (m - lo).toNat = (m - (lo + 1)).toNat + 1 := by omega
      rw [e2, Nat.pow_succ]
      omega
    · have e : chs m (s + 1) lo = [] := by
        show ((rng lo m).flatMap fun x => (chs m s (x + 1)).map (x :: ·)) = _
        rw [rng_nil (by omega)]
        rfl
      rw [e]
      exact Nat.zero_le _
termination_by s lo => (s, (m - lo).toNat)
end Mc
end

section
set_option maxHeartbeats 8000000
set_option Elab.async false
set_option linter.all false
set_option maxRecDepth 100000
namespace Ev
open PySem
def encT (t : List Int) : PyData := .tuple (t.map PyData.int)
def encF (p : List Int × Int) : PyData := .tuple [encT p.1, .int p.2]
theorem rngL_eq (lo m : Int) : rngL lo (m - lo).toNat = (Mc.rng lo m).map PyData.int := by
  unfold rngL Mc.rng
  rw [List.map_map]
  rfl
theorem pListT (t : List Int) : pList [encT t] = some (.lst (t.map PyData.int)) := rfl
theorem pLenL {α : Type} {enc : α → PyData} (l : List α) : pLen [.list (l.map enc)] = some (.sh (.int l.length)) := by
  show some (Slot.sh (.int ((l.map enc).length : Nat))) = _
  rw [List.length_map]
theorem pAddTs {t : List Int} {x : Int} (h : t.length + 1 ≤ 16777216) : pAdd [encT t, .tuple [.int x]] = some (.sh (encT (t ++ [x]))) := by
  unfold encT
  rw [pAddT (by simpa using h)]
  simp
theorem atI_last (a : Int) (t : List Int) : L2.atI (PyData.int a :: t.map PyData.int) (-1) = some (.int ((a :: t).getLast (by simp))) := by
  unfold L2.atI L2.ixN
  have h1 : ¬ (0 : Int) ≤ -1 := by decide
  have h2 : -((PyData.int a :: t.map PyData.int).length : Int) ≤ -1 := by simp only [List.length_cons]; omega
  have h3 : (-1 + ((PyData.int a :: t.map PyData.int).length : Int)).toNat = t.length := by simp only [List.length_cons, List.length_map]; omega
  rw [if_neg h1, if_pos h2, h3]
  show (PyData.int a :: t.map PyData.int)[t.length]? = _
  have : (PyData.int a :: t.map PyData.int) = (a :: t).map PyData.int := rfl
  rw [this, List.getElem?_map, List.getLast_eq_getElem]
  simp
theorem atI_ints {ns : List Int} {k : Int} (h0 : 0 ≤ k) (h1 : k < (ns.length : Int)) : L2.atI (ns.map PyData.int) k = some (.int (ns.getD k.toNat 0)) := by
  obtain ⟨j, rfl⟩ := Int.eq_ofNat_of_zero_le h0
  have hj : j < ns.length := by omega
  rw [atI_nat (by simpa using hj), Int.toNat_natCast, List.getElem?_map, List.getElem?_eq_getElem hj, List.getD_eq_getElem?_getD, List.getElem?_eq_getElem hj]
  rfl
theorem asg_pairF {i j : Nat} {p : List Int × Int} {r : Ro} : asg (.tup (.cons (.name i) (.cons (.name j) .nil))) (encF p) r = asgs (.cons (.name i) (.cons (.name j) .nil)) [encT p.1, .int p.2] r := by simp only [encF, asg]
theorem map_at {α : Type} {enc : α → PyData} {l : List α} {i : Nat} (h : i < l.length) : (l.map enc)[i]? = some (enc l[i]) := by simp [h]
theorem map_erase {α : Type} {enc : α → PyData} (l : List α) (i : Nat) : (l.map enc).eraseIdx i = (l.eraseIdx i).map enc := by
  induction l generalizing i with
  | nil => simp
  | cons a l ih => cases i <;> simp [ih]
theorem erase_perm {α : Type} : ∀ {l : List α} {i : Nat} (h : i < l.length), (l[i] :: l.eraseIdx i).Perm l
  | a :: l, 0, _ => by simp
  | a :: l, i + 1, h => by
    have ih := erase_perm (l := l) (i := i) (by simpa using h)
    simp only [List.getElem_cons_succ, List.eraseIdx_cons_succ]
    exact (List.Perm.swap _ _ _).trans (ih.cons a)
theorem eqvAll_map {α : Type} [DecidableEq α] {enc : α → PyData} (h : ∀ a b, PyData.eqv (enc a) (enc b) = decide (a = b)) : ∀ l m : List α, PyData.eqvAll (l.map enc) (m.map enc) = decide (l = m)
  | [], [] => by simp [PyData.eqvAll]
  | [], _ :: _ => by simp [PyData.eqvAll]
  | _ :: _, [] => by simp [PyData.eqvAll]
  | a :: l, b :: m => by simp only [List.map_cons, PyData.eqvAll, h, eqvAll_map h l m, List.cons.injEq, Bool.decide_and]
theorem eqv_int (a b : Int) : PyData.eqv (.int a) (.int b) = decide (a = b) := by simp only [PyData.eqv]; rfl
theorem eqv_encT (a b : List Int) : PyData.eqv (encT a) (encT b) = decide (a = b) := by simp only [encT, PyData.eqv, eqvAll_map eqv_int]
theorem eqv_encF (a b : List Int × Int) : PyData.eqv (encF a) (encF b) = decide (a = b) := by
  obtain ⟨a1, a2⟩ := a
  obtain ⟨b1, b2⟩ := b
  simp only [encF, PyData.eqv, PyData.eqvAll, eqv_encT, eqv_int, Prod.mk.injEq, Bool.decide_and, Bool.and_true]
  by_cases h : a1 = b1 <;> by_cases h2 : a2 = b2 <;> simp [h, h2]
theorem lay_map {α : Type} {enc : α → PyData} (h : ∀ a, (enc a).canLay0 = true) : ∀ l : List α, PyData.canLayAll0 (l.map enc) = true
  | [] => by simp [PyData.canLayAll0]
  | a :: l => by simp only [List.map_cons, PyData.canLayAll0, h, lay_map h l, Bool.and_self]
theorem depth_map {α : Type} {enc : α → PyData} {k : Nat} (h : ∀ a, (enc a).depth ≤ k) : ∀ l : List α, PyData.depthAll (l.map enc) ≤ k
  | [] => by simp [PyData.depthAll]
  | a :: l => by
    have h1 := h a
    have h2 := depth_map h l
    simp only [List.map_cons, PyData.depthAll]
    omega
theorem lay_int (i : Int) : (PyData.int i).canLay0 = true := by simp [PyData.canLay0]
theorem depth_int (i : Int) : (PyData.int i).depth ≤ 0 := by simp [PyData.depth]
theorem lay_encT (t : List Int) : (encT t).canLay0 = true := by simp only [encT, PyData.canLay0, lay_map lay_int]
theorem depth_encT (t : List Int) : (encT t).depth ≤ 1 := by
  have := depth_map depth_int t
  simp only [encT, PyData.depth]
  omega
theorem lay_encF (t : List Int × Int) : (encF t).canLay0 = true := by simp [encF, PyData.canLay0, PyData.canLayAll0, lay_encT]
theorem depth_encF (t : List Int × Int) : (encF t).depth ≤ 2 := by
  have := depth_encT t.1
  simp only [encF, PyData.depth, PyData.depthAll]
  omega
theorem shp_of {d : PyData} {k : Nat} (h : d.canLay0 = true) (h2 : d.depth ≤ k) (hk : k ≤ 64) : shp d = true := by
  unfold shp SeqAt.shaped
  rw [h, Bool.true_and]
  exact decide_eq_true (by omega)
theorem shp_list {α : Type} {enc : α → PyData} {k : Nat} (h : ∀ a, (enc a).canLay0 = true) (h2 : ∀ a, (enc a).depth ≤ k) (hk : k ≤ 60) (l : List α) : shp (.list (l.map enc)) = true := by
  refine shp_of (k := k + 1) (by simp only [PyData.canLay0, lay_map h]) ?_ (by omega)
  have := depth_map h2 l
  simp only [PyData.depth]
  omega
theorem shp_encT (t : List Int) : shp (encT t) = true := shp_of (lay_encT t) (depth_encT t) (by decide)
theorem pEq_of {a b : PyData} (h : shp a = true) (h2 : shp b = true) : pEq [a, b] = some (.sh (.bool (PyData.eqv a b))) := by
  unfold pEq
  split
  · rename_i e; cases e; simp only [PyData.eqv]
  · rename_i e; cases e; rw [if_pos (by rw [h, h2]; rfl)]
  · rename_i e; exact absurd rfl (e a b)
theorem pNe_of {a b : PyData} (h : shp a = true) (h2 : shp b = true) : pNe [a, b] = some (.sh (.bool (!PyData.eqv a b))) := by
  unfold pNe
  split
  · rename_i e; cases e; simp only [PyData.eqv]
  · rename_i e; cases e; rw [if_pos (by rw [h, h2]; rfl)]
  · rename_i e; exact absurd rfl (e a b)
theorem eqv_list {α : Type} [DecidableEq α] {enc : α → PyData} (h : ∀ a b, PyData.eqv (enc a) (enc b) = decide (a = b)) (l m : List α) : PyData.eqv (.list (l.map enc)) (.list (m.map enc)) = decide (l = m) := by simp only [PyData.eqv, eqvAll_map h]
theorem pEqF (l m : List (List Int × Int)) : pEq [.list (l.map encF), .list (m.map encF)] = some (.sh (.bool (decide (l = m)))) := by
  rw [pEq_of (shp_list lay_encF depth_encF (by decide) l) (shp_list lay_encF depth_encF (by decide) m), eqv_list eqv_encF]
theorem pEqLI (l m : List Int) : pEq [.list (l.map PyData.int), .list (m.map PyData.int)] = some (.sh (.bool (decide (l = m)))) := by
  rw [pEq_of (shp_list lay_int depth_int (by decide) l) (shp_list lay_int depth_int (by decide) m), eqv_list eqv_int]
def ltF (a b : List Int × Int) : Prop := a.1 < b.1 ∨ (a.1 = b.1 ∧ a.2 < b.2)
instance (a b : List Int × Int) : Decidable (ltF a b) := by unfold ltF; exact inferInstance
def ltG (a b : Int × List Int) : Prop := a.1 < b.1 ∨ (a.1 = b.1 ∧ a.2 < b.2)
instance (a b : Int × List Int) : Decidable (ltG a b) := by unfold ltG; exact inferInstance
def leF (a b : List Int × Int) : Bool := !decide (ltF b a)
def leG (a b : Int × List Int) : Bool := !decide (ltG b a)
theorem lt_tri (a b : List Int) : a < b ∨ a = b ∨ b < a := by
  by_cases h : a < b
  · exact .inl h
  · by_cases h2 : b < a
    · exact .inr (.inr h2)
    · exact .inr (.inl (List.le_antisymm (List.not_lt.mp h2) (List.not_lt.mp h)))
theorem ltF_tri (a b : List Int × Int) : ltF a b ∨ a = b ∨ ltF b a := by
  unfold ltF
  obtain ⟨a1, a2⟩ := a
  obtain ⟨b1, b2⟩ := b
  rcases lt_tri a1 b1 with h | h | h
  · exact .inl (.inl h)
  · subst h
    rcases Int.lt_trichotomy a2 b2 with h | h | h
    · exact .inl (.inr ⟨rfl, h⟩)
    · exact .inr (.inl (by rw [h]))
    · exact .inr (.inr (.inr ⟨rfl, h⟩))
  · exact .inr (.inr (.inl h))
theorem ltF_irr (a : List Int × Int) : ¬ ltF a a := by
  rintro (h | ⟨_, h⟩)
  · exact List.lt_irrefl _ h
  · omega
theorem ltF_trans {a b c : List Int × Int} (h : ltF a b) (g : ltF b c) : ltF a c := by
  unfold ltF at *
  rcases h with h | ⟨h1, h2⟩
  · rcases g with g | ⟨g1, g2⟩
    · exact .inl (List.lt_trans h g)
    · exact .inl (by rw [← g1]; exact h)
  · rcases g with g | ⟨g1, g2⟩
    · exact .inl (by rw [h1]; exact g)
    · exact .inr ⟨h1.trans g1, by omega⟩
structure Lin {α : Type} (lt : α → α → Prop) : Prop where
  tri : ∀ a b, lt a b ∨ a = b ∨ lt b a
  irr : ∀ a, ¬ lt a a
  trans : ∀ {a b c}, lt a b → lt b c → lt a c
theorem linF : Lin ltF := ⟨ltF_tri, ltF_irr, ltF_trans⟩
section
variable {α : Type} {lt : α → α → Prop} [DecidableRel lt]
def leOf (lt : α → α → Prop) [DecidableRel lt] (a b : α) : Bool := !decide (lt b a)
theorem Lin.sorted (L : Lin lt) (l : List α) : (l.mergeSort (leOf lt)).Pairwise fun a b => ¬ lt b a := by
  have h := List.pairwise_mergeSort (le := leOf lt) (fun a b c h1 h2 => ?_) (fun a b => ?_) l
  · exact h.imp fun {a b} q => by simpa [leOf] using q
  · simp only [leOf, Bool.not_eq_true', decide_eq_false_iff_not] at h1 h2 ⊢
    intro z
    rcases L.tri a b with q | q | q
    · exact h2 (L.trans z q)
    · subst q; exact h2 z
    · exact h1 q
  · simp only [leOf, Bool.or_eq_true, Bool.not_eq_true', decide_eq_false_iff_not]
    by_cases q : lt b a
    · exact .inr fun z => L.irr a (L.trans z q)
    · exact .inl q
end
end Ev
end

section
set_option Elab.async false
set_option linter.all false
set_option maxRecDepth 100000
set_option maxHeartbeats 4000000
namespace Ev
open PySem L2
open PySem.Spec PyProof.Rows
structure KK (P : Program) (w : World) (κ : Type) [DecidableEq κ] where
  is : Heap → κ → Addr → Prop
  hash : κ → Int
  inj : ∀ {h : Heap} {k k' : κ} {b : Addr}, is h k b → is h k' b → k = k'
  keep : ∀ {h h' : Heap} {k : κ} {b : Addr}, is h k b → (∀ c o, h.get? c = some o → h'.get? c = some o) → is h' k b
  same : ∀ {h h' : Heap} {k : κ} {b a : Addr} {o : Obj} {es ep t}, is h k b → h.get? a = some o → o.data = .set es ep t → h.SameBut a h' → is h' k b
  hashed : ∀ {A : Around} {E : Value → Shared → Prop} {s : Shared} {k : κ} {b : Addr} {Q : Int → Shared → Prop}, A.units + 8 < cLine → is s.heap k b → (∀ tk, s.toks ≤ tk → Q (hash k) { s with toks := tk }) → wpAny (model P w) A (pyHash (.ref b)) Q E s
  eqB : ∀ {A : Around} {E : Value → Shared → Prop} {s : Shared} {k k' : κ} {b b' : Addr} {Q : Bool → Shared → Prop}, A.units + 8 < cLine → is s.heap k b → is s.heap k' b' → Q (decide (k = k')) s → wpAny (model P w) A (eqBool (.ref b) (.ref b')) Q E s
  quiet : ∀ {A : Around} {E : Value → Shared → Prop} {s : Shared} {k : κ} {b : Addr} {Q : Bool → Shared → Prop}, is s.heap k b → Q true s → wpAny (model P w) A (eqIsQuiet 8 (.ref b)) Q E s
  byVal : ∀ {A : Around} {E : Value → Shared → Prop} {s : Shared} {k : κ} {b : Addr} {Q : Bool → Shared → Prop}, is s.heap k b → Q true s → wpAny (model P w) A (hashByValue 8 (.ref b)) Q E s
  ofA : ∀ {A : Around} {E : Value → Shared → Prop} {s : Shared} {k : κ} {b : Addr} {Q : Bool → Shared → Prop}, is s.heap k b → Q false s → wpAny (model P w) A (ofAClassStatement 8 (.ref b)) Q E s
section
variable {P : Program} {w : World} {A : Around} {E : Value → Shared → Prop} {s : Shared}
variable {κ : Type} [DecidableEq κ] {kk : KK P w κ}
def rowsG (kk : KK P w κ) (L : List (Addr × κ)) : List (Int × Value) := L.map fun p => (kk.hash p.2, Value.ref p.1)
structure SG (kk : KK P w κ) (h : Heap) (a : Addr) (L : List (Addr × κ)) (es : Array (Int × Value)) (ep : Nat) (t : SetTable) : Prop where
  ob : ∃ o, h.get? a = some o ∧ o.ExactSet ∧ o.data = .set es ep t
  rows : es.toList = rowsG kk L
  tab : TabOk t (L.map fun p => kk.hash p.2)
  nd : (L.map (·.2)).Nodup
  key : ∀ p ∈ L, kk.is h p.2 p.1
  plain : t.plain = true
  led : w.params.followText "set-order" = true ∨ t.led = true
  room : L.length * 5 < t.mask * 3
theorem SG.size {h a} {L : List (Addr × κ)} {es ep t} (R : SG kk h a L es ep t) : es.size = L.length := by
  rw [← Array.length_toList, R.rows, rowsG, List.length_map]
theorem SG.mask {h a} {L : List (Addr × κ)} {es ep t} (R : SG kk h a L es ep t) : t.mask ≤ 127 := by
  rcases R.tab.mok with e | e | e <;> omega
theorem SG.gw {h a} {L : List (Addr × κ)} {es ep t} (R : SG kk h a L es ep t) : ¬ t.gaveWay = true := by
  intro z
  have h1 := mask_odd R.tab.mok
  unfold SetTable.gaveWay at z
  simp at z
  omega
structure GotG (ks : List (Addr × κ)) (i : Nat) (L : List (Addr × κ)) : Prop where
  sub : ∀ p ∈ L, p ∈ ks.take i
  all : ∀ p ∈ ks.take i, p.2 ∈ L.map (·.2)
  len : L.length ≤ i
theorem take_nx {α : Type} {l : List α} {i : Nat} {x : α} (h : l[i]? = some x) : l.take (i + 1) = l.take i ++ [x] := by
  obtain ⟨h1, h2⟩ := List.getElem?_eq_some_iff.mp h
  rw [List.take_succ_eq_append_getElem h1, h2]
theorem GotG.same {ks L : List (Addr × κ)} {i : Nat} {x : Addr × κ} (g : GotG ks i L) (hx : ks[i]? = some x) (hm : x.2 ∈ L.map (·.2)) : GotG ks (i + 1) L := by
  refine ⟨fun p hp => ?_, fun p hp => ?_, Nat.le_succ_of_le g.len⟩
  · rw [take_nx hx]; exact List.mem_append.mpr (.inl (g.sub p hp))
  · rw [take_nx hx] at hp
    rcases List.mem_append.mp hp with q | q
    · exact g.all p q
    · rw [List.mem_singleton.mp q]; exact hm
theorem GotG.more {ks L L' : List (Addr × κ)} {i : Nat} {x : Addr × κ} (g : GotG ks i L) (hx : ks[i]? = some x) (hp : L'.Perm (x :: L)) : GotG ks (i + 1) L' := by
  refine ⟨fun p q => ?_, fun p q => ?_, ?_⟩
  · rw [take_nx hx]
    rcases List.mem_cons.mp (hp.mem_iff.mp q) with rfl | q
    · exact List.mem_append.mpr (.inr (by simp))
    · exact List.mem_append.mpr (.inl (g.sub p q))
  · rw [take_nx hx] at q
    have hm := (hp.map (·.2)).mem_iff (a := p.2)
    rw [hm, List.map_cons, List.mem_cons]
    rcases List.mem_append.mp q with q | q
    · exact .inr (g.all p q)
    · rw [List.mem_singleton.mp q]; exact .inl rfl
  · rw [hp.length_eq, List.length_cons]
    have := g.len
    omega
theorem SG.keep {h h' : Heap} {a : Addr} {L : List (Addr × κ)} {es ep t} (R : SG kk h a L es ep t) (ha : ∀ o, h.get? a = some o → h'.get? a = some o) (hk : ∀ p ∈ L, kk.is h' p.2 p.1) : SG kk h' a L es ep t := by
  obtain ⟨o, ho, q⟩ := R.ob
  exact ⟨⟨o, ha o ho, q⟩, R.rows, R.tab, R.nd, hk, R.plain, R.led, R.room⟩
end
section
variable {P : Program} {w : World} {A : Around} {E : Value → Shared → Prop} {s : Shared}
end
section
open PySem.W PySem.Calls
variable {P : Program} {w : World} {A : Around} {E : Value → Shared → Prop} {s : Shared}
variable {κ : Type} [DecidableEq κ] {kk : KK P w κ} {dat : κ → PyData}
end
section
variable [Errs]
variable {X : Cx} {pins : List (Addr × Obj)} {σ : L2.St} {H J : Hp} {s : Shared}
end
end Ev
end

section
set_option Elab.async false
set_option linter.all false
set_option maxRecDepth 100000
set_option maxHeartbeats 4000000
namespace Ev
open PySem L2
section
variable {A : Type} [DecidableEq A]
theorem nodup_le : ∀ {l m : List A}, l.Nodup → (∀ x ∈ l, x ∈ m) → l.length ≤ m.length
  | [], _, _, _ => Nat.zero_le _
  | a :: l, m, hn, hs => by
    have ha : a ∈ m := hs a (List.mem_cons_self ..)
    obtain ⟨h1, h2⟩ := List.nodup_cons.mp hn
    have q := nodup_le (l := l) (m := m.erase a) h2 fun x hx => by
      refine (List.mem_erase_of_ne fun e => ?_).mpr (hs x (List.mem_cons_of_mem _ hx))
      rw [e] at hx
      exact h1 hx
    rw [List.length_erase_of_mem ha] at q
    have := List.length_pos_of_mem ha
    rw [List.length_cons]
    omega
end
variable [Errs]
section
variable {X : Cx}
end
end Ev
end

section
set_option Elab.async false
set_option linter.all false
set_option maxRecDepth 100000
set_option maxHeartbeats 4000000
namespace Ev
open PySem L2
variable [Errs]
section
variable {K : PySem.W.Frag} {H J : Hp}
theorem RepFs.some_of {f : Str} {x : Fd} : ∀ {fs : List (Str × Fd)} {fv : List (Str × V)} {g : List Addr}, RepFs K H J fs fv g → fs.lookup f = some x → ∃ v g1, fv.lookup f = some v ∧ RepF K H J x v g1 ∧ ∀ b ∈ g1, b ∈ g
  | [], [], _, _, q => by cases q
  | [], _ :: _, _, h, _ => h.elim
  | _ :: _, [], _, h, _ => h.elim
  | (a, y) :: fs, (a', v) :: fv, g, ⟨e, g1, g2, eg, h1, h2⟩, q => by
    subst e
    rw [List.lookup_cons] at q ⊢
    cases z : f == a with
    | true =>
      rw [z] at q
      cases q
      exact ⟨v, g1, rfl, h1, fun b hb => by rw [eg]; exact List.mem_append.mpr (.inl hb)⟩
    | false =>
      rw [z] at q
      obtain ⟨v', g', h3, h4, h5⟩ := h2.some_of q
      exact ⟨v', g', h3, h4, fun b hb => by rw [eg]; exact List.mem_append.mpr (.inr (h5 b hb))⟩
theorem RepFs.len : ∀ {fs : List (Str × Fd)} {fv : List (Str × V)} {g : List Addr}, RepFs K H J fs fv g → fv.length = fs.length
  | [], [], _, _ => rfl
  | [], _ :: _, _, h => h.elim
  | _ :: _, [], _, h => h.elim
  | (a, y) :: fs, (a', v) :: fv, g, ⟨_, _, _, _, _, h2⟩ => by rw [List.length_cons, List.length_cons, h2.len]
theorem RepFs.shs {f : Str} {d : PyData} : ∀ {fs : List (Str × Fd)} {fv : List (Str × V)} {g : List Addr}, RepFs K H J fs fv g → fs.lookup f = some (.sh d) → ∃ u, fv.lookup f = some u ∧ Sh K J u d := by
  intro fs fv g h q
  obtain ⟨v, g1, h1, h2, _⟩ := h.some_of q
  exact ⟨v, h1, h2.2⟩
end
section
variable {K : PySem.W.Frag} {W : WX} {sg : St} {H J : Hp} {fp : Nat → List Addr} {Phi : Nat → Ro → FR}
theorem fld_read {c i : Nat} {f : Str} {Q : V → Hp → Prop} (hc : Cls K (Errs.oc c)) (hn : NoAttr K (Errs.oc c) f) (h : tEv K W Phi (.fld c i f) sg H Q) : tFld K (tVar i) f sg H Q := by
  obtain ⟨J, r, fp, w, f0⟩ := h
  simp only [ev] at f0
  cases er : r[i]? with
  | none => rw [er] at f0; exact f0.elim
  | some s =>
    rw [er] at f0
    cases s with
    | obj c' fs =>
      simp only at f0
      by_cases hcc : c' = c
      · subst hcc
        rw [if_pos (decide_eq_true rfl)] at f0
        obtain ⟨v, hv, a, dx, fv, gs0, rfl, hg, nd, ha, hdx, hfs⟩ := w.rep i _ er (fun z => nomatch z)
        cases el : fs.lookup f with
        | none => rw [el] at f0; exact f0.elim
        | some x =>
          rw [el] at f0
          cases x with
          | sh d =>
            obtain ⟨u, h1, h2⟩ := hfs.shs el
            exact ⟨.ref a, hv, a, _, dx, fv, u, rfl, ha, hc, hn, h1, f0 u H J fp [] w ⟨rfl, h2⟩ (fun b z => nomatch z) (nil_step Step.refl)⟩
          | lst _ => exact f0.elim
          | dct _ _ => exact f0.elim
      · rw [if_neg (by simpa using hcc)] at f0
        exact f0.elim
    | ll _ _ => exact f0.elim
    | dd _ => exact f0.elim
    | tl _ _ => exact f0.elim
    | rob c' fs =>
      simp only at f0
      by_cases hcc : c' = c
      · subst hcc
        rw [if_pos (decide_eq_true rfl)] at f0
        obtain ⟨v, hv, hg, a, dx, fv, rfl, ha, hfs⟩ := w.rep i _ er (fun z => nomatch z)
        cases el : fs.lookup f with
        | none => rw [el] at f0; exact f0.elim
        | some x =>
          rw [el] at f0
          cases x with
          | lst _ => exact f0.elim
          | dct _ _ => exact f0.elim
          | sh d =>
          obtain ⟨u, h1, h2⟩ := hfs f d el
          exact ⟨.ref a, hv, a, _, dx, fv, u, rfl, w.same _ _ ha, hc, hn, h1, f0 u H J fp [] w ⟨rfl, h2⟩ (fun b z => nomatch z) (nil_step Step.refl)⟩
      · rw [if_neg (by simpa using hcc)] at f0
        exact f0.elim
    | non => exact f0.elim
    | sh _ => exact f0.elim
    | lst _ => exact f0.elim
    | dct _ _ => exact f0.elim
end
end Ev
end

section
set_option Elab.async false
set_option linter.all false
set_option maxRecDepth 100000
set_option maxHeartbeats 4000000
namespace Ev
open PySem PySem.W PySem.Calls PyProof.Rows
def ZSt (z TI TO i1 i2 l1 l2 : Addr) (xs ys : Array Value) (S : Addr) (i : Nat) (h : Heap) : Prop :=
  IsPair h TI (.ref i1) (.ref i2) ∧ h.IsListIter i1 l1 i ∧ h.IsListIter i2 l2 i ∧ h.IsList l1 xs ∧ h.IsList l2 ys ∧
    ((IsZip h z TI TO .none ∧ ∃ a b, IsPair h TO a b) ∨ ∃ T f oT, IsZipHeld h z TI TO T f ∧ h.get? T = some oT ∧ T ≠ z ∧ T ≠ i1 ∧ T ≠ i2 ∧ T ≠ S)
structure Off (S z TI TO i1 i2 l1 l2 : Addr) : Prop where
  z : S ≠ z
  TI : S ≠ TI
  TO : S ≠ TO
  i1 : S ≠ i1
  i2 : S ≠ i2
  l1 : S ≠ l1
  l2 : S ≠ l2
section
variable {prog : Program} {w : World} {A : Around} {E : Value → Shared → Prop} {s : Shared} {R : Result → Shared → Prop} {z TI TO i1 i2 l1 l2 S : Addr} {xs ys : Array Value}
theorem ZSt.frame {i : Nat} {h h' : Heap} (O : Off S z TI TO i1 i2 l1 l2) (st : ZSt z TI TO i1 i2 l1 l2 xs ys S i h) (hk : ∀ c o, c ≠ S → h.get? c = some o → h'.get? c = some o) : ZSt z TI TO i1 i2 l1 l2 xs ys S i h' := by
  obtain ⟨hTI, h1, h2, hl1, hl2, hz⟩ := st
  refine ⟨hk _ _ O.TI.symm hTI, h1.at fun o e => hk _ o O.i1.symm e, h2.at fun o e => hk _ o O.i2.symm e, hl1.at fun o e => hk _ o O.l1.symm e, hl2.at fun o e => hk _ o O.l2.symm e, ?_⟩
  rcases hz with ⟨a, x, y, b⟩ | ⟨T, f, oT, a, b, r1, r2, r3, r4⟩
  · exact .inl ⟨hk _ _ O.z.symm a, x, y, hk _ _ O.TO.symm b⟩
  · exact .inr ⟨T, f, oT, hk _ _ O.z.symm a, hk _ _ r4 b, r1, r2, r3, r4⟩
theorem ZSt.item {i : Nat} {Q : Option Value → Shared → Prop} (D : ZipApart z TI TO i1 i2 l1 l2) (hS : S < s.heap.objs.size) (st : ZSt z TI TO i1 i2 l1 l2 xs ys S i s.heap) (hi : i < min xs.size ys.size)
    (hQ : ∀ h' x y, xs[i]? = some x → ys[i]? = some y → ZSt z TI TO i1 i2 l1 l2 xs ys S (i + 1) h' → IsPair h' s.heap.objs.size x y → h'.objs.size = s.heap.objs.size + 1 → (∀ c o, c ≠ z → c ≠ TO → c ≠ i1 → c ≠ i2 → s.heap.get? c = some o → h'.get? c = some o) → Q (some (.ref s.heap.objs.size)) { s with heap := h' }) :
    wpAny (model prog w) A (pyNext (.ref z)) Q E s := by
  obtain ⟨hTI, h1, h2, hl1, hl2, hz⟩ := st
  have ex := Array.getElem?_eq_getElem (Nat.lt_of_lt_of_le hi (Nat.min_le_left _ _))
  have ey := Array.getElem?_eq_getElem (Nat.lt_of_lt_of_le hi (Nat.min_le_right _ _))
  have lt : ∀ {c o}, s.heap.get? c = some o → s.heap.objs.size ≠ c := fun e => Nat.ne_of_gt (Heap.lt_size e)
  have n1 : s.heap.objs.size ≠ i1 := let ⟨_, e, _⟩ := h1; lt e
  have n2 : s.heap.objs.size ≠ i2 := let ⟨_, e, _⟩ := h2; lt e
  rcases hz with ⟨hz, a, b, hTO⟩ | ⟨T, f, oT, hz, hT, r1, r2, r3, r4⟩
  · refine wpAny_pyNext_zip_item D hz hTI hTO h1 h2 hl1 hl2 ex ey fun h' a1 a2 a3 a4 a5 a6 hk => hQ h' _ _ ex ey ?_ a5 a6 hk
    exact ⟨hk _ _ D.TIz D.TITO D.TIi1 D.TIi2 hTI, a3, a4, hl1.at fun o e => hk _ o D.l1z D.l1TO D.l1i1 D.l1i2 e, hl2.at fun o e => hk _ o D.l2z D.l2TO D.l2i1 D.l2i2 e, .inr ⟨_, false, _, a1, a5, lt hz, n1, n2, Nat.ne_of_gt hS⟩⟩
  · refine wpAny_pyNext_zip_item_held D hz hT hTI h1 h2 hl1 hl2 ex ey fun h' a1 a3 a4 a5 a6 hk => hQ h' _ _ ex ey ?_ a5 a6 fun c o c1 _ c3 c4 e => hk c o c1 c3 c4 e
    exact ⟨hk _ _ D.TIz D.TIi1 D.TIi2 hTI, a3, a4, hl1.at fun o e => hk _ o D.l1z D.l1i1 D.l1i2 e, hl2.at fun o e => hk _ o D.l2z D.l2i1 D.l2i2 e, .inr ⟨T, true, oT, a1, hk _ _ r1 r2 r3 hT, r1, r2, r3, r4⟩⟩
theorem ZSt.fin {Q : Option Value → Shared → Prop} (hh : A.handled = none) (D : ZipApart z TI TO i1 i2 l1 l2) (st : ZSt z TI TO i1 i2 l1 l2 xs ys S (min xs.size ys.size) s.heap)
    (hQ : ∀ h', (∀ c o, c ≠ z → c ≠ TO → c ≠ i1 → c ≠ i2 → s.heap.get? c = some o → h'.get? c = some o) → Q none { s with heap := h' }) : wpAny (model prog w) A (pyNext (.ref z)) Q E s := by
  obtain ⟨hTI, h1, h2, hl1, hl2, hz⟩ := st
  have hend : xs[min xs.size ys.size]? = none ∨ ys[min xs.size ys.size]? = none := by
    rcases Nat.le_total xs.size ys.size with h | h
    · exact .inl (Array.getElem?_eq_none (by omega))
    · exact .inr (Array.getElem?_eq_none (by omega))
  rcases hz with ⟨hz, a, b, hTO⟩ | ⟨T, f, oT, hz, hT, _⟩
  · exact wpAny_pyNext_zip_end hh D hz hTI hTO h1 h2 hl1 hl2 hend hQ
  · exact wpAny_pyNext_zip_end_held hh D hz hT hTI h1 h2 hl1 hl2 hend fun h' hk => hQ h' fun c o c1 _ c3 c4 e => hk c o c1 c3 c4 e
end
end Ev
end

section
set_option Elab.async false
set_option linter.all false
set_option maxRecDepth 100000
set_option maxHeartbeats 4000000
namespace Ev
open PySem L2 PySem.Spec PyProof.Rows
variable [Errs]
theorem PrimQ.step {K : PySem.W.Frag} {H J H1 J1 : Hp} {s : Slot} {Q : VK} (q : PrimQ K H J s Q) (st : Step (fun _ => False) H J (fun _ => False) H1 J1) (sm : Same J H) : PrimQ K H1 J1 s Q := fun v H' J' g r n t sm' =>
  q v H' J' g r (fun b hb => ⟨(n b hb).1, by
    cases e : H b with
    | none => rfl
    | some o => have := st.fr b o e id; rw [(n b hb).2] at this; cases this⟩) (st.trans t) sm'
section
variable {X : Cx}
end
end Ev
end

section
set_option Elab.async false
set_option linter.all false
set_option maxRecDepth 100000
set_option maxHeartbeats 4000000
namespace Ev
open PySem L2
variable [Errs]

def isBO : Expr → Bool
  | .BoolOp _ _ _ => true
  | _ => false
def plainT : Expr → Bool
  | .UnaryOp .Not _ _ => false
  | .BoolOp _ _ _ => false
  | .IfExp _ _ _ _ => false
  | .Compare _ _ _ _ => false
  | _ => true
theorem plainT_ok {e : Expr} {env : Env} (h : plainT e = true) : ∀ whole, isTrue e env whole = (do let v ← whole; standAt e.pos; holding [v] (truthy v)) := by
  intro whole
  cases e <;> first | rfl | (simp [plainT] at h; done) | skip
  rename_i op x p
  cases op <;> first | rfl | (simp [plainT] at h)
section
variable {P : Prg} {N : List Str} {k : Nat} {Phi : Nat → Ro → FR}
def Snd (P : Prg) (Phi : Nat → Ro → FR) (X : Cx) (W : WX) (c : CE) (e : Expr) : Prop :=
  PE X e (tEv X.K W Phi c) ∧ PT X e (tTr X.K W Phi c) ∧ (isBO e = true → PW X e (tTr X.K W Phi c))
theorem Snd.of {X : Cx} {W : WX} {c : CE} {e : Expr} (h : PE X e (tEv X.K W Phi c)) (hp : plainT e = true) : Snd P Phi X W c e := by
  refine ⟨h, PT.imp (pt_val h (plainT_ok hp)) fun sg H Q q => tr_ev q, fun z => ?_⟩
  cases e <;> simp [isBO] at z
  simp [plainT] at hp
theorem Snd.bad {X : Cx} {W : WX} {c : CE} {e : Expr} (h : ∀ r, ev Phi c r = .bad) : Snd P Phi X W c e := by
  refine ⟨⟨fun pins s sg H Q I ⟨J, r, fp, w, f⟩ => ?_⟩, ⟨fun pins s sg H Q I ⟨J, r, fp, w, f⟩ => ?_⟩, fun _ => ⟨fun wh pins s sg H Q I ⟨J, r, fp, w, f⟩ => ?_⟩⟩
  · rw [h] at f; exact f.elim
  · rw [h] at f; exact f.elim
  · rw [h] at f; exact f.elim
theorem PW.imp {X : Cx} {e : Expr} {t t' : TT} (h : PW X e t) (i : ∀ sg H Q, t' sg H Q → t sg H Q) : PW X e t' := ⟨fun wh pins s sg H Q I q => h.run wh pins s sg H Q I (i sg H Q q)⟩
def slQ (K : PySem.W.Frag) (Q : V → Hp → Prop) (bl bh : Bool) (vs : List V) (H : Hp) : Prop := match bl, bh, vs with
  | true, false, [v, u] => ∃ i, u = .int i ∧ rCut K v (some i) none H Q
  | false, true, [v, u] => ∃ i, u = .int i ∧ rCut K v none (some i) H Q
  | true, true, [v, u, z] => ∃ i, u = .int i ∧ ∃ j, z = .int j ∧ rCut K v (some i) (some j) H Q
  | _, _, _ => False
theorem slQ_of {K : PySem.W.Frag} {H : Hp} {Q : V → Hp → Prop} {bl bh : Bool} {vs : List V} (r : rPrim K (.sl bl bh) vs H Q) : slQ K Q bl bh vs H := by
  have hlen : ∀ {vs : List V} {ds : List PyData} {J : Hp}, Vws K H J vs ds → vs.length = ds.length := by
    intro vs ds J h
    induction h with
    | nil => rfl
    | cons _ _ ih => simp [ih]
  have r0 := r
  obtain ⟨J, ds, t, sm, vw, hp, q⟩ := r0
  have hl := hlen vw
  rcases pSl_some (show pSl bl bh ds = some t from hp) with ⟨d, i, rfl, rfl, rfl, hc⟩ | ⟨d, i, rfl, rfl, rfl, hc⟩ | ⟨d, i, j, rfl, rfl, rfl, hc⟩
  · match vs, hl with
    | [v, u], _ => exact sl_lo r
  · match vs, hl with
    | [v, u], _ => exact sl_hi r
  · match vs, hl with
    | [v, u, z], _ => exact sl_lohi r
def revQ (K : PySem.W.Frag) (Q : V → Hp → Prop) (vs : List V) (H : Hp) : Prop := match vs with
  | [v] => ∃ a xs, v = .ref a ∧ ((SqL K H a xs ∧ ∀ p, H p = none → Q (.ref p) (upd H p (.lst xs.reverse))) ∨ (SqT K H a xs ∧ ∀ p, H p = none → Q (.ref p) (upd H p (.tup xs.reverse))))
  | _ => False
theorem revQ_of {K : PySem.W.Frag} {H : Hp} {Q : V → Hp → Prop} {vs : List V} (r : rPrim K .rev vs H Q) : revQ K Q vs H := by
  have r0 := r
  obtain ⟨J, ds, t, sm, vw, hp, q⟩ := r0
  have hp : pRev ds = some t := hp
  unfold pRev at hp
  split at hp
  · obtain ⟨v, rfl, _⟩ := vw.one
    exact rev_l r
  · obtain ⟨v, rfl, _⟩ := vw.one
    exact rev_l r
  · cases hp
theorem slForm_ok {o : Op} {a b : Expr} {l : List Expr} (h : slForm o a b = some l) : (∃ x p, o = .sl true false ∧ b = .Slice (some x) none none p ∧ l = [a, x]) ∨ (∃ x p, o = .sl false true ∧ b = .Slice none (some x) none p ∧ l = [a, x]) ∨
    (∃ k p1 p2 p3, o = .rev ∧ b = .Slice none none (some (.UnaryOp .USub (.Constant (.int 1) k p1) p2)) p3 ∧ l = [a]) := by
  unfold slForm at h
  split at h
  · cases h; exact .inl ⟨_, _, rfl, rfl, rfl⟩
  · cases h; exact .inr (.inl ⟨_, _, rfl, rfl, rfl⟩)
  · cases h; exact .inr (.inr ⟨_, _, _, _, rfl, rfl, rfl⟩)
  · cases h
theorem slForm_ne {o : Op} {a b : Expr} (h : slForm o a b = some []) : False := by
  rcases slForm_ok h with ⟨_, _, _, _, e⟩ | ⟨_, _, _, _, e⟩ | ⟨_, _, _, _, _, _, e⟩ <;> cases e
theorem isiForm_ok {sc : Scope} {o : Op} {x : Str} {a : Expr} {as l : List Expr} (h : isiForm sc o x a as = some l) : ∃ t, o = .isi t ∧ x = "isinstance" ∧ l = [a] ∧ isG sc "isinstance" = true ∧ isG sc (Str.ofString t) = true ∧ tyOk t = true ∧ ∃ p, as = [.Name (Str.ofString t) p] := by
  unfold isiForm at h
  split at h
  · rename_i t ht
    split at h
    · rename_i hc
      cases h
      simp only [Bool.and_eq_true, decide_eq_true_eq] at hc
      obtain ⟨⟨⟨⟨rfl, h2⟩, h3⟩, h4⟩, h5⟩ := hc
      refine ⟨t, ?_, rfl, rfl, h3, h4, h5, ?_⟩
      · cases o <;> first | (cases ht; rfl) | cases ht
      · match as, h2 with
        | [y], h2 =>
          simp only [List.map_cons, List.map_nil, List.cons.injEq, and_true] at h2
          cases y <;> simp only [nameOf] at h2 <;> first | (cases h2; exact ⟨_, rfl⟩) | cases h2
        | [], h2 => cases h2
        | _ :: _ :: _, h2 => simp at h2
    · cases h
  · cases h
theorem notSetI {it : CI} {sc : Scope} {tg e : Expr} (h : okI P.tx N sc tg it e = true) : isSet e = false := by
  cases it with
  | prs z es => cases z <;> cases e <;> first | rfl | exact (Bool.false_ne_true h).elim | (simp [okI] at h)
  | seq c =>
    simp only [okI, Bool.and_eq_true, Bool.not_eq_true'] at h
    exact h.2
  | rng1 c => cases e <;> first | rfl | exact (Bool.false_ne_true h).elim | (simp [okI] at h)
  | rng2 c d => cases e <;> first | rfl | exact (Bool.false_ne_true h).elim | (simp [okI] at h)
  | rng3 c d f => cases e <;> first | rfl | exact (Bool.false_ne_true h).elim | (simp [okI] at h)
  | its c => cases e <;> first | rfl | exact (Bool.false_ne_true h).elim | (simp [okI] at h)
theorem foldS {e : Expr} {env : Env} (h : isSet e = false) : ∀ x, foldedSetIterable e env x = pure x := by
  intro x
  cases e <;> first | rfl | (simp [isSet] at h)
theorem lastM {op op' : CmpOp} {b c : Expr} (h : isSet c = false) : lastMarks [op, op'] [b, c] = false := by
  show behindInMarks op' c = false
  exact noset h
theorem okI_rng1 {c : CE} {sc : Scope} {tg e : Expr} (h : okI P.tx N sc tg (.rng1 c) e = true) : ∃ p a pos, e = .Call (.Name "range" p) [a] [] pos ∧ isG sc "range" = true ∧ okE P.tx N sc c a = true := by
  simp only [okI] at h
  split at h
  · rename_i x _ a _
    simp only [Bool.and_eq_true, decide_eq_true_eq] at h
    obtain ⟨⟨rfl, h1⟩, h2⟩ := h
    exact ⟨_, a, _, rfl, h1, h2⟩
  · cases h
theorem okI_rng2 {c d : CE} {sc : Scope} {tg e : Expr} (h : okI P.tx N sc tg (.rng2 c d) e = true) : ∃ p a b pos, e = .Call (.Name "range" p) [a, b] [] pos ∧ isG sc "range" = true ∧ okE P.tx N sc c a = true ∧ okE P.tx N sc d b = true := by
  simp only [okI] at h
  split at h
  · rename_i x _ a b _
    simp only [Bool.and_eq_true, decide_eq_true_eq] at h
    obtain ⟨⟨⟨rfl, h1⟩, h2⟩, h3⟩ := h
    exact ⟨_, a, b, _, rfl, h1, h2, h3⟩
  · cases h
theorem okI_rng3 {c d f : CE} {sc : Scope} {tg e : Expr} (h : okI P.tx N sc tg (.rng3 c d f) e = true) : ∃ p a b k pos, e = .Call (.Name "range" p) [a, b, k] [] pos ∧ isG sc "range" = true ∧ okE P.tx N sc c a = true ∧ okE P.tx N sc d b = true ∧ okE P.tx N sc f k = true := by
  simp only [okI] at h
  split at h
  · rename_i x _ a b k _
    simp only [Bool.and_eq_true, decide_eq_true_eq] at h
    obtain ⟨⟨⟨⟨rfl, h1⟩, h2⟩, h3⟩, h4⟩ := h
    exact ⟨_, a, b, k, _, rfl, h1, h2, h3, h4⟩
  · cases h
theorem isTup_ok {e : Expr} (h : isTup e = true) : ∃ l k p, e = .Tuple l k p := by
  cases e <;> first | exact ⟨_, _, _, rfl⟩ | (simp [isTup] at h)
theorem okI_zip {es : CEs} {sc : Scope} {tg e : Expr} (h : okI P.tx N sc tg (.prs true es) e = true) : ∃ p a b pos, e = .Call (.Name "zip" p) [a, b] [] pos ∧ isG sc "zip" = true ∧ isTup tg = true ∧ okEs P.tx N sc es [a, b] = true := by
  simp only [okI] at h
  split at h
  · rename_i x _ a b _
    simp only [Bool.and_eq_true, decide_eq_true_eq] at h
    obtain ⟨⟨⟨rfl, h1⟩, h2⟩, h3⟩ := h
    exact ⟨_, a, b, _, rfl, h1, h2, h3⟩
  · cases h
theorem okI_enum {es : CEs} {sc : Scope} {tg e : Expr} (h : okI P.tx N sc tg (.prs false es) e = true) : ∃ p a pos, e = .Call (.Name "enumerate" p) [a] [] pos ∧ isG sc "enumerate" = true ∧ isTup tg = true ∧ okEs P.tx N sc es [a] = true := by
  simp only [okI] at h
  split at h
  · rename_i x _ a _
    simp only [Bool.and_eq_true, decide_eq_true_eq] at h
    obtain ⟨⟨⟨rfl, h1⟩, h2⟩, h3⟩ := h
    exact ⟨_, a, _, rfl, h1, h2, h3⟩
  · cases h

theorem okI_its {c : CE} {sc : Scope} {tg e : Expr} (h : okI P.tx N sc tg (.its c) e = true) : ∃ a ap cp, e = .Call (.Attribute a "items" ap) [] [] cp ∧ okE P.tx N sc c a = true ∧ isTup tg = true ∧ (ap.endLine == cp.line) = true ∧ isCall a = false := by
  simp only [okI] at h
  split at h
  · rename_i a m ap cp
    simp only [Bool.and_eq_true, decide_eq_true_eq, Bool.not_eq_true'] at h
    obtain ⟨⟨⟨⟨rfl, h1⟩, h2⟩, h3⟩, h4⟩ := h
    exact ⟨a, _, _, rfl, h1, h2, h3, h4⟩
  · cases h
theorem isc_one {K : PySem.W.Frag} {cs : List Nat} {vs : List V} {H : Hp} {Q : VK} (h : rPrim K (.isc cs) vs H Q) : ∃ x, vs = [x] := by
  obtain ⟨J, ds, t, sm, vw, hp, q⟩ := h
  have hp : pIsc cs ds = some t := hp
  have hl : ∃ d, ds = [d] := by
    unfold pIsc at hp
    split at hp <;> first | exact ⟨_, rfl⟩ | cases hp
  obtain ⟨d, rfl⟩ := hl
  obtain ⟨v, rfl, _⟩ := vw.one
  exact ⟨v, rfl⟩
theorem clsName_ok {X : Cx} {sc : Scope} {fb : Str → Bool} {y : Str} {p : Pos} {v : V} {cv : Value} (g : Good P N k Phi X sc fb) (hg : isG sc y = true) (rv : RelV v cv) (hm : X.mg y = some cv ∨ (X.mg y = none ∧ bootBuiltins y = some cv ∧ y ≠ "__name__")) : PE X (.Name y p) (tC v) := by
  obtain ⟨h1, h2⟩ := isG_ok g hg
  rcases hm with hm | ⟨hm, hb, hn⟩
  · exact pe_glob h1 hm rv h2
  · exact pe_bltn h1 hm hb rv hn h2
def tVals : List V → TA
  | [] => tNil
  | v :: vs => tCons (tC v) (tVals vs)
theorem tVals_of : ∀ {vs : List V} {sg : St} {H : Hp} {Q : List V → Hp → Prop}, Q vs H → tVals vs sg H Q
  | [], _, _, _, q => q
  | v :: vs, sg, H, Q, q => by
    show tVals vs sg H fun xs H2 => Q (v :: xs) H2
    exact tVals_of q
theorem clsAll_ok {X : Cx} {sc : Scope} {fb : Str → Bool} (g : Good P N k Phi X sc fb) : ∀ {l : List Expr} {cs : List Nat}, clsAll P.tx sc l = some cs → ∃ vs us, ClsKs X.K vs us cs ∧ PA X l (tVals vs) ∧ vs.length = l.length
  | [], cs, h => by simp only [clsAll] at h; cases h; exact ⟨[], [], .nil, pa_nil, rfl⟩
  | e :: l, cs, h => by
    unfold clsAll at h
    split at h <;> first | (rename_i q; cases q; done) | skip
    · rename_i x p l' q
      cases q
      split at h
      · rename_i hg
        cases e1 : P.tx.clss.lookup x with
        | none => rw [e1] at h; cases h
        | some a =>
          cases e2 : clsAll P.tx sc l with
          | none => rw [e1, e2] at h; cases h
          | some b =>
            rw [e1, e2] at h
            cases h
            obtain ⟨vs, us, h1, h2, h3⟩ := clsAll_ok g e2
            obtain ⟨v, cv, hv, rv, hm, hck, _⟩ := g.ers.cl x a e1
            exact ⟨v :: vs, cv :: us, .cons hv hck h1, pa_cons (clsName_ok g hg rv hm) h2 rfl, by simp [h3]⟩
      · cases h
    · cases h

mutual
theorem sound : ∀ (c : CE) {X : Cx} {sc : Scope} {fb : Str → Bool} {W : WX} {e : Expr}, Good P N k Phi X sc fb → Takes X W → okE P.tx N sc c e = true → Snd P Phi X W c e
  | .var i, X, sc, fb, W, e, g, tk, h => by
    cases e <;> try simp only [okE, Bool.false_eq_true] at h
    exact Snd.of (soundVar g h) rfl
  | .ref i, X, sc, fb, W, e, g, tk, h => by
    cases e <;> try simp only [okE, Bool.false_eq_true] at h
    exact Snd.of (PE.imp (isV_ok g h) fun sg H Q ⟨J, r, fp, w, f⟩ => by simp only [ev] at f; exact f.elim) rfl
  | .shr i, X, sc, fb, W, e, g, tk, h => by
    cases e <;> try simp only [okE, Bool.false_eq_true] at h
    exact Snd.of (soundShr g h) rfl
  | .dnew t, X, sc, fb, W, e, g, tk, h => by
    unfold okE at h
    split at h <;> first | (rename_i q; cases q; done) | skip
    all_goals first | (cases h; done) | skip
    rename_i q
    cases q
    refine Snd.of ?_ rfl
    have fin : ∀ {sg : St} {H J : Hp} {r : Ro} {fp : Nat → List Addr} {Q : V → Hp → Prop} {ho : HO}, Wf X.K H J sg r fp → Fin X.K W (RepS X.K) sg H J fp (.ok (.dct t []) r) Q → DRep X.K J ho t [] → ∀ p, H p = none → Q (.ref p) (upd H p ho) := by
      intro sg H J r fp Q ho w f hd p hp
      have jp : J p = none := by
        cases e : J p with
        | none => rfl
        | some o => rw [w.same _ _ e] at hp; cases hp
      refine f (.ref p) _ J fp [p] (w.newOwn hp) ⟨p, ho, rfl, rfl, upd_same, hd⟩ (fun b z => ?_) ((step_own hp).weak fun b z => z.imp id List.mem_singleton.mp)
      cases List.mem_singleton.mp z
      refine ⟨jp, fun ⟨j, y⟩ => ?_⟩
      obtain ⟨_, o, ho, _⟩ := w.jn j _ y
      rw [hp] at ho; cases ho
    cases t with
    | false => exact PE.imp pe_dnewK fun sg H Q ⟨J, r, fp, w, f⟩ => fin w (by simp only [ev] at f; exact f) ⟨[], rfl, rfl, .nil⟩
    | true => exact PE.imp pe_dnewT fun sg H Q ⟨J, r, fp, w, f⟩ => fin w (by simp only [ev] at f; exact f) ⟨[], rfl, rfl, .nil⟩
  | .xop o es, X, sc, fb, W, e, g, tk, h => by
    unfold okE at h
    split at h <;> first | (rename_i q; cases q; done) | skip
    all_goals first | (cases h; done) | skip
    · rename_i cs c q
      cases q
      split at h <;> first | (cases h; done) | skip
      rename_i x p1 a kx pos
      simp only [Bool.and_eq_true, decide_eq_true_eq] at h
      obtain ⟨⟨⟨rfl, hg⟩, hc⟩, hk⟩ := h
      obtain ⟨h1, h2⟩ := isG_ok g hg
      have oa := PE.opd g hc (sound c g tk hc).1
      have s1 := star_ok (env := X.env) (es := [kx]) (okE_star hc)
      unfold clsForm at hk
      split at hk
      · rename_i y p2
        simp only [Bool.and_eq_true, decide_eq_true_eq] at hk
        obtain ⟨hg2, hl⟩ := hk
        obtain ⟨v, cv, hv, rv, hm, hck, _⟩ := g.ers.cl y cs hl
        exact Snd.of (PE.imp (pe_callB (pm_isc g.ers.ex hck) h1 (g.blt _ (by simp [bnames])) (by decide +kernel) (pa_cons oa (pa_cons (clsName_ok (p := p2) g hg2 rv hm) pa_nil rfl) s1) (by decide) h2 s1 rfl)
          fun sg H Q q => op_readR (RR := fun vs H2 => ∃ x c, vs ++ [v] = [x, c] ∧ ClsV c cv ∧ rPrim X.K (.isc cs) [x] H2 Q) (xop_op q) fun vs H2 r => by
            obtain ⟨x, rfl⟩ := isc_one r
            exact ⟨x, v, rfl, hv, r⟩) rfl
      · rename_i l kk p2
        simp only [Bool.and_eq_true, decide_eq_true_eq] at hk
        obtain ⟨vs0, us0, hks, hpa, hlen⟩ := clsAll_ok g hk.1
        exact Snd.of (PE.imp (pe_callB (pm_iscT g.ers.ex hks) h1 (g.blt _ (by simp [bnames])) (by decide +kernel) (pa_cons oa (pa_cons (pe_tup hpa) pa_nil rfl) s1) (by decide) h2 s1 rfl)
          fun sg H Q q => op_readR (RR := fun vs H2 => tVals vs0 sg H2 fun xs H3 => xs.length ≤ sizeLine ∧ ∀ p, H3 p = none → ∃ (x : V) (tp : Addr), vs ++ [V.ref p] = [x, V.ref tp] ∧ (upd H3 p (.tup xs)) tp = some (.tup vs0) ∧ rPrim X.K (.isc cs) [x] (upd H3 p (.tup xs)) Q) (xop_op q) fun vs H2 r => by
            obtain ⟨x, rfl⟩ := isc_one r
            refine tVals_of ⟨by rw [hlen, sizeLine_eq]; omega, fun p hp => ⟨x, p, rfl, upd_same, r.new hp⟩⟩) rfl
      · cases hk
    · rename_i f c q
      cases q
      split at h <;> first | (cases h; done) | skip
      rename_i a n pos
      simp only [Bool.and_eq_true, decide_eq_true_eq, Bool.not_eq_true'] at h
      obtain ⟨⟨⟨rfl, hc⟩, hn⟩, hf⟩ := h
      have oa := PE.opd g hc (sound c g tk hc).1
      refine Snd.of (PE.imp (pe_errfld (pos := pos) g.ers.ex (fun c hc => g.ers.fld c hc f hf) oa ?_) fun sg H Q q => op_read (xop_op q)) rfl
      cases a <;> first | rfl | (simp [isCall] at hn)
  | .dsp true kk vv, X, sc, fb, W, e, g, tk, h => by
    unfold okE at h
    first | (cases h; done) | (split at h <;> first | (rename_i q; cases q; done) | (cases h; done))
  | .dsp false kk vv, X, sc, fb, W, e, g, tk, h => by
    unfold okE at h
    first | (cases h; done) | (split at h <;> first | (rename_i q; cases q; done) | (cases h; done))
  | .xnew c f a, X, sc, fb, W, e, g, tk, h => by
    unfold okE at h
    first | (cases h; done) | (split at h <;> first | (rename_i q; cases q; done) | (cases h; done))
  | .sl2 a lo hi, X, sc, fb, W, e, g, tk, h => by
    unfold okE at h
    first | (cases h; done) | (split at h <;> first | (rename_i q; cases q; done) | (cases h; done))
  | .meth o i es, X, sc, fb, W, e, g, tk, h => by
    unfold okE at h
    split at h <;> first | (rename_i q; cases q; done) | skip
    all_goals first | (cases h; done) | skip
  | .pop0 i, X, sc, fb, W, e, g, tk, h => by
    unfold okE at h
    first | (cases h; done) | (split at h <;> first | (rename_i q; cases q; done) | (cases h; done))
  | .own c, X, sc, fb, W, e, g, tk, h => by
    simp only [okE, Bool.and_eq_true] at h
    have s1 := sound c g tk h.1
    exact ⟨PE.imp s1.1 fun sg H Q ⟨J, r, fp, w, f⟩ => by simp only [ev] at f; exact f.elim, PT.imp s1.2.1 fun sg H Q ⟨J, r, fp, w, f⟩ => by simp only [ev] at f; exact f.elim, fun z => PW.imp (s1.2.2 z) fun sg H Q ⟨J, r, fp, w, f⟩ => by simp only [ev] at f; exact f.elim⟩
  | .pop i c, X, sc, fb, W, e, g, tk, h => by
    simp only [okE] at h
    split at h
    · rename_i x hx
      obtain ⟨y, p, ap, cp, rfl, hv, hs, hl⟩ := mthd_ok hx
      have he := PE.sh (sound c g tk h).1
      refine Snd.of (PE.imp (meth_list g PySem.F.slot_list_pop PySem.F.type_list_pop mt_popAt' hv hs hl he) fun sg H Q ⟨J, r, fp, w, f⟩ => ?_) rfl
      simp only [ev] at f
      split at f
      · rename_i ds0 ed0
        obtain ⟨v, hv, a, xs0, rfl, hg0, ha0, hd0⟩ := w.rep i _ ed0 (fun z => nomatch z)
        refine ⟨_, hv, .inl ⟨rfl, xs0, .of ha0⟩, J, r, fp, w, Fin.bindD f fun d r1 v1 H1 J1 fp1 ee w1 q t1 f1 => ?_⟩
        clear ee
        split at f1
        · rename_i n ds ed
          obtain ⟨v', hv', a', xs, e1, hg, ha, hd⟩ := w1.rep i _ ed (fun z => nomatch z)
          rw [hv] at hv'
          cases hv'
          cases e1
          cases q
          have mem : a ∈ fp1 i := by rw [hg]; exact List.mem_singleton.mpr rfl
          have hi : i < r1.length := (List.getElem?_eq_some_iff.mp ed).1
          have jn := (w1.jn i a mem).1
          split at f1
          · rename_i j hj
            split at f1
            · rename_i y hy
              obtain ⟨vy, hvy, hsy⟩ := shsGet hd hy
              refine ⟨a, xs, n, j, vy, rfl, rfl, ha, by rw [shsLen hd]; exact hj, hvy, ?_⟩
              have w2 : Wf X.K (upd H1 a (.lst (xs.eraseIdx j))) J1 sg (r1.set i .non) (fpSet fp1 i []) := (w1.drop i).step (step_upd (D := a)) (same_updN w1.same jn) fun b z y => own_wipe_ne w1 mem (by rw [← y]; exact z)
              have w3 := w2.putKeep (i := i) (s := .lst (ds.eraseIdx j)) (v := .ref a) (g := [a]) (by rw [List.length_set]; exact hi) hv ⟨a, _, rfl, rfl, upd_same, shsErase j hd⟩ fun b z => by
                cases List.mem_singleton.mp z
                exact ⟨jn, fun k hk y => own_wipe_ne w1 mem ⟨k, y⟩⟩
              rw [List.set_set] at w3
              refine f1 vy _ J1 _ [] w3 ⟨rfl, hsy⟩ (fun b z => nomatch z) (nil_step ⟨Same.refl _, fun b o q nb => ?_, fun b q => ?_, fun b q => .inl q⟩)
              · rw [upd_ne fun z => nb (by rw [z]; exact ⟨i, mem⟩)]
                exact q
              · rcases own_set q with z | z
                · cases List.mem_singleton.mp z; exact .inl ⟨i, mem⟩
                · exact .inl (own_wipe z)
            · exact f1.elim
          · exact f1.elim
        · exact f1.elim
      · exact f.elim
    · cases h
  | .cst d, X, sc, fb, W, e, g, tk, h => by
    cases e <;> try simp only [okE, Bool.false_eq_true] at h
    rename_i c kk p
    refine Snd.of ?_ rfl
    cases c <;> cases d <;> simp only [cstIs, Bool.false_eq_true] at h
    · exact PE.imp pe_non fun sg H Q ⟨J, r, fp, w, f⟩ => f .non H J fp [] w ⟨rfl, .non⟩ (fun b z => nomatch z) (nil_step Step.refl)
    · rename_i a b
      have h : a = b := by simpa using h
      subst h
      exact PE.imp pe_bl fun sg H Q ⟨J, r, fp, w, f⟩ => f (.bl a) H J fp [] w ⟨rfl, .bl a⟩ (fun b z => nomatch z) (nil_step Step.refl)
    · rename_i a b
      have h : a = b := of_decide_eq_true h
      subst h
      exact PE.imp pe_int fun sg H Q ⟨J, r, fp, w, f⟩ => f (.int a) H J fp [] w ⟨rfl, .int a⟩ (fun b z => nomatch z) (nil_step Step.refl)
    · rename_i a b
      have h : a = b := of_decide_eq_true h
      subst h
      exact PE.imp pe_str fun sg H Q ⟨J, r, fp, w, f⟩ => f (.str a) H J fp [] w ⟨rfl, .str a⟩ (fun b z => nomatch z) (nil_step Step.refl)
  | .glob y d, X, sc, fb, W, e, g, tk, h => by
    cases e <;> try simp only [okE, Bool.false_eq_true] at h
    rename_i x p
    refine Snd.of ?_ rfl
    simp only [Bool.and_eq_true, decide_eq_true_eq] at h
    obtain ⟨⟨rfl, hg⟩, hc⟩ := h
    obtain ⟨h1, h2⟩ := isG_ok g hg
    split at hc
    · rename_i j hj
      obtain ⟨u, hu, t, rfl⟩ := g.csts _ _ hj
      cases d <;> simp only [cstIs, Bool.false_eq_true] at hc
      have hc := of_decide_eq_true hc
      subst hc
      exact PE.imp (pe_glob (v := .int j) h1 hu ⟨t, rfl⟩ h2) fun sg H Q ⟨J, r, fp, w, f⟩ => f (.int j) H J fp [] w ⟨rfl, .int j⟩ (fun b z => nomatch z) (nil_step Step.refl)
    · rename_i j hj
      obtain ⟨u, hu, t, rfl⟩ := g.csts _ _ hj
      cases d <;> simp only [cstIs, Bool.false_eq_true] at hc
      have hc := of_decide_eq_true hc
      subst hc
      exact PE.imp (pe_glob (v := .str j) h1 hu ⟨t, rfl⟩ h2) fun sg H Q ⟨J, r, fp, w, f⟩ => f (.str j) H J fp [] w ⟨rfl, .str j⟩ (fun b z => nomatch z) (nil_step Step.refl)
    · cases hc
  | .tup es, X, sc, fb, W, e, g, tk, h => by
    cases e <;> try simp only [okE, Bool.false_eq_true] at h
    simp only [Bool.and_eq_true, decide_eq_true_eq] at h
    obtain ⟨_, _, pa⟩ := soundEs es g tk h.1
    refine Snd.of (PE.imp (pe_tup pa) fun sg H Q ⟨J, r, fp, w, f⟩ => ?_) rfl
    simp only [ev] at f
    refine disp_read w ?_
    cases e : evs Phi es r with
    | bad => rw [e] at f; exact f
    | ex c fs r1 => rw [e] at f; exact f
    | ok ds r1 =>
      rw [e] at f
      intro vs H1 J1 fp1 w1 q hl t1
      refine ⟨by rw [hl, sizeLine_eq]; omega, fun p hp => ?_⟩
      have t2 : Step (Own fp1) H1 J1 (Own fp1) (upd H1 p (.tup vs)) (upd J1 p (.tup vs)) := step_new w1.same hp
      exact f (.ref p) _ (upd J1 p (.tup vs)) fp1 [] (w1.new hp) ⟨rfl, .tup upd_same (shsMono t2.js q)⟩ (fun b z => nomatch z) (nil_step (t1.trans t2))
  | .lst es, X, sc, fb, W, e, g, tk, h => by
    cases e <;> try simp only [okE, Bool.false_eq_true] at h
    simp only [Bool.and_eq_true, decide_eq_true_eq] at h
    obtain ⟨_, _, pa⟩ := soundEs es g tk h.1
    refine Snd.of (PE.imp (pe_lst pa) fun sg H Q ⟨J, r, fp, w, f⟩ => ?_) rfl
    simp only [ev] at f
    refine disp_read w ?_
    cases e : evs Phi es r with
    | bad => rw [e] at f; exact f
    | ex c fs r1 => rw [e] at f; exact f
    | ok ds r1 =>
      rw [e] at f
      intro vs H1 J1 fp1 w1 q hl t1
      refine ⟨by rw [hl, sizeLine_eq]; omega, fun p hp => ?_⟩
      have jp : J1 p = none := by
        cases e : J1 p with
        | none => rfl
        | some o => rw [w1.same _ _ e] at hp; cases hp
      refine f (.ref p) _ J1 fp1 [p] (w1.newOwn hp) ⟨p, vs, rfl, rfl, upd_same, q⟩ (fun b z => ?_) (t1.trans ((step_own hp).weak fun b z => z.imp id List.mem_singleton.mp))
      cases List.mem_singleton.mp z
      refine ⟨jp, fun ⟨j, y⟩ => ?_⟩
      obtain ⟨_, o, ho, _⟩ := w1.jn j _ y
      rw [hp] at ho; cases ho
  | .not a, X, sc, fb, W, e, g, tk, h => by
    cases e <;> try simp only [okE, Bool.false_eq_true] at h
    rename_i op x p
    cases op <;> try simp only [okE, Bool.false_eq_true] at h
    obtain ⟨s1, s2, s3⟩ := sound a g tk h
    exact ⟨PE.imp (pe_not s1) fun sg H Q q => notV_read q, PT.imp (pt_not s2) fun sg H Q q => not_read q, fun z => by simp [isBO] at z⟩
  | .and a b, X, sc, fb, W, e, g, tk, h => by
    cases e <;> try simp only [okE, Bool.false_eq_true] at h
    rename_i op l p
    cases op with
    | Or => simp only [okE, Bool.false_eq_true] at h
    | And =>
      match l, h with
      | [], h => simp only [okE, Bool.false_eq_true] at h
      | [_], h => simp only [okE, Bool.false_eq_true] at h
      | [x, y], h =>
        simp only [okE, Bool.and_eq_true] at h
        obtain ⟨a1, a2, a3⟩ := sound a g tk h.1
        obtain ⟨b1, b2, b3⟩ := sound b g tk h.2
        have w : PW X (.BoolOp .And [x, y] p) (tTr X.K W Phi (.and a b)) := PW.imp (pw_and a2 (pw_and1 b2)) fun sg H Q q => and_read q
        exact ⟨PE.imp (pe_and a1 (pe_one b1)) fun sg H Q q => andV_read q, w.pt, fun _ => w⟩
      | x :: y :: z :: l, h =>
        simp only [okE, Bool.and_eq_true] at h
        obtain ⟨a1, a2, a3⟩ := sound a g tk h.1
        obtain ⟨b1, b2, b3⟩ := sound b g tk h.2
        have w : PW X (.BoolOp .And (x :: y :: z :: l) p) (tTr X.K W Phi (.and a b)) := PW.imp (pw_and a2 (b3 rfl)) fun sg H Q q => and_read q
        exact ⟨PE.imp (pe_and a1 b1) fun sg H Q q => andV_read q, w.pt, fun _ => w⟩
  | .or a b, X, sc, fb, W, e, g, tk, h => by
    cases e <;> try simp only [okE, Bool.false_eq_true] at h
    rename_i op l p
    cases op with
    | And => simp only [okE, Bool.false_eq_true] at h
    | Or =>
      match l, h with
      | [], h => simp only [okE, Bool.false_eq_true] at h
      | [_], h => simp only [okE, Bool.false_eq_true] at h
      | [x, y], h =>
        simp only [okE, Bool.and_eq_true] at h
        obtain ⟨a1, a2, a3⟩ := sound a g tk h.1
        obtain ⟨b1, b2, b3⟩ := sound b g tk h.2
        have w : PW X (.BoolOp .Or [x, y] p) (tTr X.K W Phi (.or a b)) := PW.imp (pw_or a2 (pw_or1 b2)) fun sg H Q q => or_read q
        exact ⟨PE.imp (pe_or a1 (pe_one b1)) fun sg H Q q => orV_read q, w.pt, fun _ => w⟩
      | x :: y :: z :: l, h =>
        simp only [okE, Bool.and_eq_true] at h
        obtain ⟨a1, a2, a3⟩ := sound a g tk h.1
        obtain ⟨b1, b2, b3⟩ := sound b g tk h.2
        have w : PW X (.BoolOp .Or (x :: y :: z :: l) p) (tTr X.K W Phi (.or a b)) := PW.imp (pw_or a2 (b3 rfl)) fun sg H Q q => or_read q
        exact ⟨PE.imp (pe_or a1 b1) fun sg H Q q => orV_read q, w.pt, fun _ => w⟩
  | .chain o p a b c, X, sc, fb, W, e, g, tk, h => by
    cases e <;> try simp only [okE, Bool.false_eq_true] at h
    rename_i x ops es pos
    match ops, es, h with
    | [o1, o2], [y, z], h =>
      simp only [okE, Bool.and_eq_true, decide_eq_true_eq, Bool.not_eq_true'] at h
      obtain ⟨⟨⟨⟨⟨⟨h1, h2⟩, h3⟩, h4⟩, h5⟩, h6⟩, h7⟩ := h
      have pa := PE.sh (sound a g tk h5).1
      have pb := PE.sh (sound b g tk h6).1
      have pc := PE.sh (sound c g tk h7).1
      have c1 := cmp_ok g h1
      have c2 := cmp_ok g h2
      refine ⟨PE.imp (pe_chain c1 c2 pa pb pc (lastM h3)) fun sg H Q q => chain_read q, PT.imp (pt_chain c1 c2 pa pb pc (lastM h3)) fun sg H Q q => chain_read (tr_ev q), fun z => by simp [isBO] at z⟩
    | [], _, h => simp only [okE, Bool.false_eq_true] at h
    | [_], _, h => simp only [okE, Bool.false_eq_true] at h
    | [_, _], [], h => simp only [okE, Bool.false_eq_true] at h
    | [_, _], [_], h => simp only [okE, Bool.false_eq_true] at h
    | [_, _], _ :: _ :: _ :: _, h => simp only [okE, Bool.false_eq_true] at h
    | _ :: _ :: _ :: _, _, h => simp only [okE, Bool.false_eq_true] at h
  | .chain3 o p q a b c d, X, sc, fb, W, e, g, tk, h => by
    unfold okE at h
    first | (cases h; done) | (split at h <;> first | (rename_i q; cases q; done) | (cases h; done))
  | .op o .nil, X, sc, fb, W, e, g, tk, h => by
    simp only [okE] at h
    split at h
    · rename_i l hl
      rw [Bool.and_eq_true, Bool.or_eq_true] at h
      obtain ⟨h, hq⟩ := h
      cases l with
      | cons a as => simp [okEs] at h
      | nil =>
        unfold opForm at hl
        split at hl <;> first | (split at hl <;> first | (cases hl; done) | (exact (slForm_ne hl).elim) | (obtain ⟨t, _, _, hz, _⟩ := isiForm_ok hl; cases hz; done) | (split at hl <;> cases hl; done)) | cases hl
    · cases h
  | .op o (.cons a .nil), X, sc, fb, W, e, g, tk, h => by
    simp only [okE] at h
    split at h
    · rename_i l hl
      rw [Bool.and_eq_true, Bool.or_eq_true] at h
      obtain ⟨h, hq⟩ := h
      match l, h with
      | [], h => simp [okEs] at h
      | [x], h =>
        simp only [okEs, Bool.and_eq_true] at h
        obtain ⟨h, _⟩ := h
        have s1 := sound a g tk h
        have o1 := PE.opd g h s1.1
        unfold opForm at hl
        split at hl
        · split at hl <;> cases hl
        · split at hl <;> cases hl
        · split at hl
          · rename_i ho
            cases hl
            cases ho
            exact Snd.of (PE.imp (pe_un pm_neg o1) fun sg H Q q => op_read q) rfl
          · cases hl
        · split at hl
          · cases hl
          · rcases slForm_ok hl with ⟨_, _, _, _, hz⟩ | ⟨_, _, _, _, hz⟩ | ⟨k, p1, p2, p3, rfl, rfl, hz⟩
            · cases hz
            · cases hz
            · cases hz
              exact Snd.of (PE.imp (pe_revA o1) fun sg H Q q => op_readR (RR := revQ X.K Q) q fun vs H2 r => revQ_of r) rfl
        · split at hl
          · rename_i hio
            obtain ⟨t, rfl, rfl, hz, hg1, hg2, hty, p2, rfl⟩ := isiForm_ok hl
            cases hz
            exact Snd.of (PE.imp (isi_ok g hg1 hg2 hty o1 (okE_star h)) fun sg H Q q => op_readR (RR := fun vs H2 => rIsiP X.K t (vs ++ [.ty t]) H2 Q) q fun vs H2 ⟨J, ds, s, sm, vw, hp, pq⟩ => by
              have hp' : pIsi t ds = some s := hp
              unfold pIsi at hp'
              split at hp'
              · obtain ⟨v, rfl, a⟩ := vw.one
                exact ⟨v, rfl, J, _, s, sm, vw, hp, pq⟩
              · cases hp') rfl
          · split at hl
            · rename_i hb
              cases hl
              simp only [Bool.and_eq_true, decide_eq_true_eq] at hb
              have pa : PA X [x] (seqOpd X.K W (rd1 Phi) (.cons a .nil)) := pa_cons o1 pa_nil (star_ok (okE_star h))
              refine Snd.of (PE.imp (bname_ok g hb.1 hb.2 hq pa fun y q => ?_) fun sg H Q q => op_read q) rfl
              cases List.mem_singleton.mp q
              exact okE_star h
            · cases hl
        · cases hl
      | _ :: _ :: _, h => simp [okEs] at h
    · cases h
  | .op o (.cons a (.cons b cs)), X, sc, fb, W, e, g, tk, h => by
    simp only [okE] at h
    split at h
    · rename_i l hl
      rw [Bool.and_eq_true, Bool.or_eq_true] at h
      obtain ⟨h, hq⟩ := h
      match l, h with
      | [], h => simp [okEs] at h
      | [_], h => simp [okEs] at h
      | x :: y :: l, h =>
        have hs := okEs_star h
        simp only [okEs, Bool.and_eq_true] at h
        obtain ⟨ha, hb, hc⟩ := h
        have sa := sound a g tk ha
        have sb := sound b g tk hb
        have oa := PE.opd g ha sa.1
        have ob := PE.opd g hb sb.1
        have pr : PA X (x :: y :: l) (seqOpd X.K W (rd1 Phi) (.cons a (.cons b cs))) := pa_cons oa (pa_cons ob (soundEs cs g tk hc).1 (star_ok (okE_star hb))) (star_ok (okE_star ha))
        unfold opForm at hl
        split at hl
        · split at hl
          · rename_i hbo
            cases hl
            cases cs with
            | cons _ _ => simp [okEs] at hc
            | nil => exact Snd.of (PE.imp (pe_op (bin_ok hbo) oa ob) fun sg H Q q => op_read q) rfl
          · cases hl
        · split at hl
          · rename_i hcm
            cases hl
            simp only [Bool.and_eq_true, decide_eq_true_eq, Bool.not_eq_true'] at hcm
            cases cs with
            | cons _ _ => simp [okEs] at hc
            | nil =>
              have c1 := cmp_ok g hcm.1
              exact ⟨PE.imp (pe_cmpR c1 oa ob (noset hcm.2)) fun sg H Q q => op_read q, PT.imp (pt_cmpR c1 oa ob (noset hcm.2)) fun sg H Q q => op_read (tr_ev q), fun z => by simp [isBO] at z⟩
          · cases hl
        · split at hl <;> cases hl
        · split at hl
          · rename_i hit
            cases hl
            simp only [Bool.and_eq_true, decide_eq_true_eq, Bool.not_eq_true'] at hit
            obtain ⟨rfl, hsl⟩ := hit
            cases cs with
            | cons _ _ => simp [okEs] at hc
            | nil =>
              refine Snd.of (PE.imp (pe_ix (pm_item (by have := g.room.un; omega)) oa ob fun _ _ => ?_) fun sg H Q q => op_read q) rfl
              cases y <;> first | rfl | (simp [isSlice] at hsl)
          · rcases slForm_ok hl with ⟨x2, p2, rfl, rfl, hz⟩ | ⟨x2, p2, rfl, rfl, hz⟩ | ⟨_, _, _, _, _, _, hz⟩
            · cases hz
              cases cs with
              | cons _ _ => simp [okEs] at hc
              | nil => exact Snd.of (PE.imp (pe_slice pm_cut oa (po_some ob) po_none) fun sg H Q q => op_readR (RR := slQ X.K Q true false) q fun vs H2 r => slQ_of r) rfl
            · cases hz
              cases cs with
              | cons _ _ => simp [okEs] at hc
              | nil => exact Snd.of (PE.imp (pe_slice pm_cut oa po_none (po_some ob)) fun sg H Q q => op_readR (RR := slQ X.K Q false true) q fun vs H2 r => slQ_of r) rfl
            · cases hz
        · split at hl
          · obtain ⟨t, _, _, hz, _⟩ := isiForm_ok hl
            cases hz
          · split at hl
            · rename_i hbn
              cases hl
              simp only [Bool.and_eq_true, decide_eq_true_eq] at hbn
              exact Snd.of (PE.imp (bname_ok g hbn.1 hbn.2 hq pr hs) fun sg H Q q => op_read q) rfl
            · cases hl
        · cases hl
    · cases h
  | .lc elt tg it cond own, X, sc, fb, W, e, g, tk, h => by
    cases e <;> try simp only [okE, Bool.false_eq_true] at h
    rename_i e gs scope pos
    match gs, h with
    | [], h => simp only [okE, Bool.false_eq_true] at h
    | _ :: _ :: _, h => simp only [okE, Bool.false_eq_true] at h
    | [⟨t, i, ifs, a⟩], h =>
      by_cases ha : a = 0
      · subst ha
        simp only [okE, Bool.and_eq_true] at h
        obtain ⟨⟨⟨⟨⟨⟨hcm, h1⟩, h2⟩, h3⟩, h4⟩, h5⟩, h6⟩ := h
        have bk := blkOk_by h1
        have hso : ∀ j ∈ slotsT tg, j ∈ own.map (·.2) := fun j q => of_decide_eq_true (List.all_eq_true.mp h6 j q)
        refine Snd.of (PE.imp (pe_lc (own := own) (g.calm hcm) (by rw [g.hN]; exact g.nd) (soundI it g tk h3) (by rw [g.hN, g.hsc]; exact bk) (fun s H C cl fp => soundT _ (g.blk bk.kind) hcm h2) (fun s H C cl fp => soundC cond (g.blk bk.kind) takes0 h4)
          (fun s H C cl fp => PE.sh (sound elt (g.blk bk.kind) takes0 h5).1) (foldS (notSetI h3))) fun sg H Q q => lc_read hso q) rfl
      · exfalso
        split at h
        · rename_i q
          simp_all
        · cases h
  | .mk c f .nil, X, sc, fb, W, e, g, tk, h => by
    unfold okE at h
    first | (cases h; done) | (split at h <;> first | (rename_i q; cases q; done) | (cases h; done))
  | .mk c f (.cons c0 cs), X, sc, fb, W, e, g, tk, h => by
    unfold okE at h
    first | (cases h; done) | (split at h <;> first | (rename_i q; cases q; done) | (cases h; done))
  | .fld c i f, X, sc, fb, W, e, g, tk, h => by
    unfold okE at h
    split at h <;> first | (rename_i q; cases q; done) | skip
    all_goals first | (cases h; done) | skip
    rename_i x p n pos
    simp only [Bool.and_eq_true, decide_eq_true_eq] at h
    obtain ⟨⟨rfl, hv⟩, hf⟩ := h
    obtain ⟨hc, hn⟩ := g.obs.fls c _ hf
    exact Snd.of (PE.imp (pe_fld (isV_ok g hv) rfl) fun sg H Q q => fld_read hc hn q) rfl
  | .opf o c i f, X, sc, fb, W, e, g, tk, h => by
    unfold okE at h
    first | (cases h; done) | (split at h <;> first | (rename_i q; cases q; done) | (cases h; done))
  | .mcall c m f a .nil, X, sc, fb, W, e, g, tk, h => by
    unfold okE at h
    first | (cases h; done) | (split at h <;> first | (rename_i q; cases q; done) | (cases h; done))
  | .mcall c m f a (.cons c0 cs), X, sc, fb, W, e, g, tk, h => by
    unfold okE at h
    first | (cases h; done) | (split at h <;> first | (rename_i q; cases q; done) | (cases h; done))
  | .call f .nil, X, sc, fb, W, e, g, tk, h => by
    cases e <;> try simp only [okE, Bool.false_eq_true] at h
    rename_i fn as kws pos
    cases fn <;> try simp only [okE, Bool.false_eq_true] at h
    rename_i x p
    cases as with
    | cons a as =>
      cases kws <;> simp [okE, okEs] at h
    | nil =>
      cases kws <;> try simp only [okE, Bool.false_eq_true] at h
      simp only [Bool.and_eq_true, decide_eq_true_eq] at h
      obtain ⟨⟨h1, h2⟩, hcm⟩ := h
      obtain ⟨fa, fd, ps, F, hm, hk, hb⟩ := g.fns f x h1
      obtain ⟨g1, g2⟩ := isG_ok g h2
      exact Snd.of (PE.imp (pe_callG0 F g.gd ((g.room.of hcm).mono (by omega)) g1 hm hk hb (fun sg => passAt tk sg) g2) fun sg H Q q => call_read q) rfl
  | .call f (.cons c cs), X, sc, fb, W, e, g, tk, h => by
    cases e <;> try simp only [okE, Bool.false_eq_true] at h
    rename_i fn as kws pos
    cases fn <;> try simp only [okE, Bool.false_eq_true] at h
    rename_i x p
    cases as <;> try simp only [okE, Bool.false_eq_true] at h
    rename_i a as
    cases kws <;> try simp only [okE, Bool.false_eq_true] at h
    simp only [Bool.and_eq_true, decide_eq_true_eq] at h
    obtain ⟨⟨⟨h1, h2⟩, h3⟩, hcm⟩ := h
    have hs := okEs_star h3
    simp only [okEs, Bool.and_eq_true] at h3
    have oa := PE.arg g h3.1 (sound c g tk h3.1).1 (fun c' e => by subst e; simp only [okE, Bool.and_eq_true] at h3; exact PE.own (sound c' g tk h3.1.1).1)
    have pr : PA X (a :: as) (seqOpd X.K W (ar1 Phi) (.cons c cs)) := pa_cons oa (soundEs cs g tk h3.2).2.1 (star_ok (okE_star h3.1))
    obtain ⟨fa, fd, ps, F, hm, hk, hb⟩ := g.fns f x h1
    obtain ⟨g1, g2⟩ := isG_ok g h2
    exact Snd.of (PE.imp (pe_callG F g.gd ((g.room.of hcm).mono (by omega)) g1 hm hk hb (fun sg => passAt tk sg) pr g2 (star_ok (hs a (List.mem_cons_self ..))) (plain_ok fun y q => hs y (List.mem_cons_of_mem _ q))) fun sg H Q q => call_read q) rfl
  | .ll0 n, X, sc, fb, W, e, g, tk, h => by
    unfold okE at h
    first | (cases h; done) | (split at h <;> first | (rename_i q; cases q; done) | (cases h; done))
  | .ddn, X, sc, fb, W, e, g, tk, h => by
    unfold okE at h
    first | (cases h; done) | (split at h <;> first | (rename_i q; cases q; done) | (cases h; done))
  | .get0 i c, X, sc, fb, W, e, g, tk, h => by
    unfold okE at h
    first | (cases h; done) | (split at h <;> first | (rename_i q; cases q; done) | (cases h; done))
  | .fnc kk, X, sc, fb, W, e, g, tk, h => by
    unfold okE at h
    first | (cases h; done) | (split at h <;> first | (rename_i q; cases q; done) | (cases h; done))
  | .nn b i, X, sc, fb, W, e, g, tk, h => by
    unfold okE at h
    first | (cases h; done) | (split at h <;> first | (rename_i q; cases q; done) | (cases h; done))
  | .snd i, X, sc, fb, W, e, g, tk, h => by
    unfold okE at h
    first | (cases h; done) | (split at h <;> first | (rename_i q; cases q; done) | (cases h; done))
  | .tlFst i, X, sc, fb, W, e, g, tk, h => by
    unfold okE at h
    first | (cases h; done) | (split at h <;> first | (rename_i q; cases q; done) | (cases h; done))
  | .tlPop0 i, X, sc, fb, W, e, g, tk, h => by
    unfold okE at h
    first | (cases h; done) | (split at h <;> first | (rename_i q; cases q; done) | (cases h; done))
  | .callV i .nil, X, sc, fb, W, e, g, tk, h => by
    unfold okE at h
    first | (cases h; done) | (split at h <;> first | (rename_i q; cases q; done) | (cases h; done))
  | .callV i (.cons c cs), X, sc, fb, W, e, g, tk, h => by
    unfold okE at h
    first | (cases h; done) | (split at h <;> first | (rename_i q; cases q; done) | (cases h; done))
  | .callT f .nil, X, sc, fb, W, e, g, tk, h => by
    unfold okE at h
    first | (cases h; done) | (split at h <;> first | (rename_i q; cases q; done) | (cases h; done))
  | .callT f (.cons c cs), X, sc, fb, W, e, g, tk, h => by
    unfold okE at h
    first | (cases h; done) | (split at h <;> first | (rename_i q; cases q; done) | (cases h; done))
  | .callB f .nil, X, sc, fb, W, e, g, tk, h => by
    unfold okE at h
    first | (cases h; done) | (split at h <;> first | (rename_i q; cases q; done) | (cases h; done))
  | .callB f (.cons c cs), X, sc, fb, W, e, g, tk, h => by
    unfold okE at h
    first | (cases h; done) | (split at h <;> first | (rename_i q; cases q; done) | (cases h; done))
  | .callF f .nil, X, sc, fb, W, e, g, tk, h => by
    unfold okE at h
    first | (cases h; done) | (split at h <;> first | (rename_i q; cases q; done) | (cases h; done))
  | .callF f (.cons c cs), X, sc, fb, W, e, g, tk, h => by
    unfold okE at h
    first | (cases h; done) | (split at h <;> first | (rename_i q; cases q; done) | (cases h; done))
termination_by c => sizeOf c
theorem soundEs : ∀ (cs : CEs) {X : Cx} {sc : Scope} {fb : Str → Bool} {W : WX} {l : List Expr}, Good P N k Phi X sc fb → Takes X W → okEs P.tx N sc cs l = true →
    PA X l (seqOpd X.K W (rd1 Phi) cs) ∧ PA X l (seqOpd X.K W (ar1 Phi) cs) ∧ PA X l (seqOpd X.K W (it1 Phi) cs)
  | .nil, X, sc, fb, W, l, g, tk, h => by
    cases l with
    | nil => exact ⟨pa_nil, pa_nil, pa_nil⟩
    | cons a as => simp [okEs] at h
  | .cons c cs, X, sc, fb, W, l, g, tk, h => by
    cases l with
    | nil => simp [okEs] at h
    | cons a as =>
      simp only [okEs, Bool.and_eq_true] at h
      have s1 := (sound c g tk h.1).1
      obtain ⟨p1, p2, p3⟩ := soundEs cs g tk h.2
      have st := star_ok (env := X.env) (es := as) (okE_star h.1)
      exact ⟨pa_cons (PE.opd g h.1 s1) p1 st, pa_cons (PE.arg g h.1 s1 (fun c' e => by subst e; simp only [okE, Bool.and_eq_true] at h; exact PE.own (sound c' g tk h.1.1).1)) p2 st, pa_cons (PE.itm s1) p3 st⟩
termination_by cs => sizeOf cs
theorem soundB : ∀ (cs : CEs) {X : Cx} {sc : Scope} {fb : Str → Bool} {W : WX} {l : List Expr}, Good P N k Phi X sc fb → Takes X W → okEs P.tx N sc cs l = true → PA X l (bT X.K W Phi cs)
  | .nil, X, sc, fb, W, l, g, tk, h => by
    cases l with
    | nil => exact pa_nil
    | cons a as => simp [okEs] at h
  | .cons c cs, X, sc, fb, W, l, g, tk, h => by
    cases l with
    | nil => simp [okEs] at h
    | cons a as =>
      simp only [okEs, Bool.and_eq_true] at h
      have p1 := soundB cs g tk h.2
      have st := star_ok (env := X.env) (es := as) (okE_star h.1)
      refine pa_cons ?_ p1 st
      cases hl : isLent c with
      | false => rw [bE_gen hl]; exact PE.sh (sound c g tk h.1).1
      | true =>
        cases c <;> first | (cases hl; done) | skip
        · rename_i i
          have h1 := h.1
          cases a <;> try simp only [okE, Bool.false_eq_true] at h1
          exact isV_ok g h1
        · have h1 := h.1
          unfold okE at h1
          first | (cases h1; done) | (split at h1 <;> first | (rename_i q; cases q; done) | (cases h1; done))
termination_by cs => sizeOf cs
theorem soundC : ∀ (cs : CEs) {X : Cx} {sc : Scope} {fb : Str → Bool} {W : WX} {l : List Expr}, Good P N k Phi X sc fb → Takes X W → okEs P.tx N sc cs l = true → PTs X l (tCs X.K W Phi cs)
  | .nil, X, sc, fb, W, l, g, tk, h => by
    cases l with
    | nil => exact ⟨fun pins s sg H Q I ⟨J, r, fp, w, f⟩ => (pts_nil (X := X)).run pins s sg H Q I (f H J fp w Step.refl)⟩
    | cons a as => simp [okEs] at h
  | .cons c .nil, X, sc, fb, W, l, g, tk, h => by
    cases l with
    | nil => simp [okEs] at h
    | cons a as =>
      cases as with
      | cons _ _ => simp [okEs] at h
      | nil =>
        simp only [okEs, Bool.and_eq_true] at h
        exact pts_one (PT.imp (sound c g tk h.1).2.1 fun sg H Q ⟨J, r, fp, w, f⟩ => ⟨J, r, fp, w, f⟩)
  | .cons c (.cons d cs), X, sc, fb, W, l, g, tk, h => by
    cases l with
    | nil => simp [okEs] at h
    | cons a as =>
      cases as with
      | nil => simp [okEs] at h
      | cons b as => exact ⟨fun pins s sg H Q I ⟨J, r, fp, w, f⟩ => f.elim⟩
termination_by cs => sizeOf cs
theorem soundI : ∀ (it : CI) {X : Cx} {sc : Scope} {fb : Str → Bool} {W : WX} {tg e : Expr}, Good P N k Phi X sc fb → Takes X W → okI P.tx N sc tg it e = true → PI X tg e (tI X.K W Phi it)
  | .seq c, X, sc, fb, W, tg, e, g, tk, h => by
    simp only [okI, Bool.and_eq_true] at h
    have h := h.1
    have s1 := (sound c g tk h).1
    have gen : (∀ r, evI Phi (.seq c) r = (ev Phi c r).sh.bind fun d r1 => seqI d [] r1) → PI X tg e (tI X.K W Phi (.seq c)) := fun e1 =>
      PI.imp (pi_seq (PE.sh s1)) fun sg H Q ⟨J, r, fp, w, f⟩ => by
        rw [e1] at f
        exact ⟨J, r, fp, w, FinI.bindD f fun d r1 v H1 J1 fp1 _ w1 q f1 => seq_sh w1 q f1⟩
    cases c with
    | var i =>
      cases e <;> try simp only [okE, Bool.false_eq_true] at h
      refine PI.imp (pi_seq (isV_ok g h)) fun sg H Q ⟨J, r, fp, w, f⟩ => ?_
      simp only [evI] at f
      cases e : lk1 r (.pl i) with
      | none => rw [e] at f; exact f.elim
      | some p =>
        obtain ⟨d, ls, r1⟩ := p
        rw [e] at f
        simp only at f
        have hv : ∃ v, sg[i]? = some (some v) := by
          simp only [lk1] at e
          split at e
          · rename_i ed
            obtain ⟨v, hv, _⟩ := w.rep i _ ed (fun z => nomatch z)
            exact ⟨v, hv⟩
          · rename_i ed
            obtain ⟨v, hv, _⟩ := w.rep i _ ed (fun z => nomatch z)
            exact ⟨v, hv⟩
          · cases e
        obtain ⟨v, hv⟩ := hv
        obtain ⟨fp1, gs, w1, lk, st, ow⟩ := lk1_ok (o := .pl i) (v := v) (g := []) w ⟨rfl, hv⟩ e
        refine ⟨v, hv, seq_std w1 st lk ?_⟩
        rcases seqI_cases d ls r1 with e2 | ⟨xs, e2⟩
        · rw [e2] at f ⊢; exact f
        · rw [e2] at f ⊢
          exact fun T S wk s kp e1 e2 hl => f T S H J fp1 gs w1 wk s kp lk hl (Step.refl.weak fun b z => ow b z)
    | _ => exact gen fun r => by simp only [evI]
  | .rng1 c, X, sc, fb, W, tg, e, g, tk, h => by
    obtain ⟨p, a, pos, rfl, hg, hc⟩ := okI_rng1 h
    obtain ⟨g1, g2⟩ := isG_ok g hg
    have s1 := PE.sh (sound c g tk hc).1
    have st := star_ok (env := X.env) (es := []) (okE_star hc)
    refine PI.imp (pi_range1 g1 (g.blt _ (by simp [bnames])) (pa_cons s1 pa_nil st) st) fun sg H Q ⟨J, r, fp, w, f⟩ => ?_
    simp only [evI] at f
    refine ⟨J, r, fp, w, FinI.bindD f fun d r1 v H1 J1 fp1 _ w1 q f1 => ?_⟩
    cases q with
    | int n =>
      simp only at f1
      split at f1
      · rename_i hn
        simp only [in62, Bool.and_eq_true, decide_eq_true_eq] at hn
        exact ⟨n, rfl, hn.1.1, hn.1.2, f1 _ _ H1 J1 fp1 [] w1 walks_rng trivial (fun _ _ _ _ _ _ _ _ _ => trivial) .nil (by rw [rngL_len, sizeLine_eq]; exact of_decide_eq_true hn.2) (nil_step Step.refl)⟩
      · exact f1.elim
    | _ => exact f1.elim
  | .rng2 c d, X, sc, fb, W, tg, e, g, tk, h => by
    obtain ⟨p, a, b, pos, rfl, hg, hc, hd⟩ := okI_rng2 h
    obtain ⟨g1, g2⟩ := isG_ok g hg
    have s1 := PE.sh (sound c g tk hc).1
    have s2 := PE.sh (sound d g tk hd).1
    have st := star_ok (env := X.env) (es := [b]) (okE_star hc)
    have st2 := star_ok (env := X.env) (es := []) (okE_star hd)
    refine PI.imp (pi_range2 g1 (g.blt _ (by simp [bnames])) (pa_cons s1 (pa_cons s2 pa_nil st2) st) (by rw [st, st2]; rfl) st2) fun sg H Q ⟨J, r, fp, w, f⟩ => ?_
    simp only [evI] at f
    refine ⟨J, r, fp, w, FinI.bindD f fun d r1 v H1 J1 fp1 _ w1 q f1 => ⟨J1, r1, fp1, w1, FinI.bindD f1 fun d2 r2 v2 H2 J2 fp2 _ w2 q2 f2 => ?_⟩⟩
    cases q with
    | int m =>
      cases q2 with
      | int n =>
        simp only at f2
        split at f2
        · rename_i hn
          simp only [in62, Bool.and_eq_true, decide_eq_true_eq] at hn
          exact ⟨m, n, rfl, ⟨hn.1.1.1, hn.1.1.2, hn.1.2.1, hn.1.2.2⟩, f2 _ _ H2 J2 fp2 [] w2 walks_rng trivial (fun _ _ _ _ _ _ _ _ _ => trivial) .nil (by rw [rngL_len, sizeLine_eq]; exact of_decide_eq_true hn.2) (nil_step Step.refl)⟩
        · exact f2.elim
      | _ => exact f2.elim
    | _ => cases q2 <;> exact f2.elim
  | .rng3 c d f, X, sc, fb, W, tg, e, g, tk, h => by
    obtain ⟨p, a, b, k, pos, rfl, hg, hc, hd, hf⟩ := okI_rng3 h
    obtain ⟨g1, g2⟩ := isG_ok g hg
    have s1 := PE.sh (sound c g tk hc).1
    have s2 := PE.sh (sound d g tk hd).1
    have s3 := PE.sh (sound f g tk hf).1
    have st := star_ok (env := X.env) (es := [b, k]) (okE_star hc)
    have st2 := star_ok (env := X.env) (es := [k]) (okE_star hd)
    have st3 := star_ok (env := X.env) (es := []) (okE_star hf)
    refine PI.imp (pi_range3 g1 (g.blt _ (by simp [bnames])) (pa_cons s1 (pa_cons s2 (pa_cons s3 pa_nil st3) st2) st) st (by rw [st2, st3]; rfl)) fun sg H Q ⟨J, r, fp, w, f⟩ => ?_
    simp only [evI] at f
    refine ⟨J, r, fp, w, FinI.bindD f fun d r1 v H1 J1 fp1 _ w1 q f1 => ⟨J1, r1, fp1, w1, FinI.bindD f1 fun d2 r2 v2 H2 J2 fp2 _ w2 q2 f2 => ⟨J2, r2, fp2, w2, FinI.bindD f2 fun d3 r3 v3 H3 J3 fp3 _ w3 q3 f3 => ?_⟩⟩⟩
    rcases rng3I_cases d d2 d3 r3 with e | ⟨m, n, rfl, rfl, rfl, h1, h2, h3, e⟩
    · rw [e] at f3
      exact f3.elim
    · rw [e] at f3
      cases q
      cases q2
      cases q3
      simp only [in62, Bool.and_eq_true, decide_eq_true_eq] at h1 h2
      exact ⟨m, n, -1, (m - n).toNat, rfl, RgC.neg h1.1 h1.2 h2.1 h2.2, f3 _ _ H3 J3 fp3 [] w3 walks_rngD trivial (fun _ _ _ _ _ _ _ _ _ => trivial) .nil (by rw [rngD_len, sizeLine_eq]; exact h3) (nil_step Step.refl)⟩
  | .its c, X, sc, fb, W, tg, e, g, tk, h => by
    obtain ⟨a, ap, cp, rfl, hc, ht, hl, hn⟩ := okI_its h
    obtain ⟨l, kk, tp, rfl⟩ := isTup_ok ht
    refine PI.imp (pi_its (PE.sh (sound c g tk hc).1) ?_ hl) fun sg H Q ⟨J, r, fp, w, f⟩ => ?_
    · cases a <;> first | rfl | (simp [isCall] at hn)
    · simp only [evI] at f
      exact ⟨J, r, fp, w, FinI.bindD f fun d r1 v H1 J1 fp1 _ w1 q f1 => its_sh w1 q f1⟩
  | .prs true es, X, sc, fb, W, tg, e, g, tk, h => by
    obtain ⟨p, a, b, pos, rfl, hg, ht, hc⟩ := okI_zip h
    obtain ⟨l, kk, tp, rfl⟩ := isTup_ok ht
    obtain ⟨g1, g2⟩ := isG_ok g hg
    have hs := okEs_star hc
    have pr := (soundEs es g tk hc).1
    exact PI.imp (pi_zipB g1 (g.blt _ (by simp [bnames])) pr (star_ok (hs a (by simp))) (plain_ok fun y q => hs y (List.mem_cons_of_mem _ q))) fun sg H Q q => zip_read q
  | .prs false es, X, sc, fb, W, tg, e, g, tk, h => by
    obtain ⟨p, a, pos, rfl, hg, ht, hc⟩ := okI_enum h
    obtain ⟨l, kk, tp, rfl⟩ := isTup_ok ht
    obtain ⟨g1, g2⟩ := isG_ok g hg
    have hs := okEs_star hc
    have pr := (soundEs es g tk hc).1
    exact PI.imp (pi_enum g1 (g.blt _ (by simp [bnames])) pr (by rw [star_ok (hs a (by simp))]; rfl)) fun sg H Q q => enum_read q
termination_by it => sizeOf it
end
end
end Ev
end

section
set_option Elab.async false
set_option linter.all false
set_option maxRecDepth 100000
set_option maxHeartbeats 4000000
namespace Ev
open PySem L2
variable [Errs]

section
variable (K : PySem.W.Frag) (W : WX) (fu : Nat) (Phi : Nat → Ro → FR)
def FinS (vs : List Nat) (sg : St) (H J : Hp) (fp : Nat → List Addr) (x : R Fl) (D : Ends) : Prop := match x with
  | .ok .nx r' => ∀ sg' H' J' fp', Wf K H' J' sg' r' fp' → Agree vs sg sg' → Step (Own fp) H J (Own fp') H' J' → D.nx sg' H'
  | .ok (.ret s) r' => ∀ v sg' H' J' fp' g, Wf K H' J' sg' r' fp' → Agree vs sg sg' → RepS K H' J' s v g → (∀ b ∈ g, J' b = none ∧ ¬ Own fp' b) → Step (Own fp) H J (fun b => Own fp' b ∨ b ∈ g) H' J' → D.rt v H'
  | .ex c fs r' => ∀ sg' H' J' fp' cls d, Wf K H' J' sg' r' fp' → Agree vs sg sg' → XRep K H' J' c fs cls d → Step (Own fp) H J (Own fp') H' J' → W cls d sg' H'
  | .bad => False
def tS (vs : List Nat) (c : CS) : TS := fun D sg H => ∃ J r fp, Wf K H J sg r fp ∧ FinS K W vs sg H J fp (ex fu Phi c r) D
def tSs (vs : List Nat) (c : CSs) : TS := fun D sg H => ∃ J r fp, Wf K H J sg r fp ∧ FinS K W vs sg H J fp (exs fu Phi c r) D
end
section
variable {K : PySem.W.Frag} {W : WX} {fu : Nat} {Phi : Nat → Ro → FR} {vs ws : List Nat} {sg sg1 : St} {H J H1 J1 : Hp} {fp fp1 : Nat → List Addr} {D : Ends}
theorem FinS.later {x : R Fl} (a : Agree vs sg sg1) (s : Step (Own fp) H J (Own fp1) H1 J1) (h : FinS K W vs sg H J fp x D) : FinS K W vs sg1 H1 J1 fp1 x D := by
  cases x with
  | ok f r =>
    cases f with
    | nx => exact fun sg' H' J' fp' w q t => h sg' H' J' fp' w (a.trans q) (s.trans t)
    | ret z => exact fun v sg' H' J' fp' g w q r n t => h v sg' H' J' fp' g w (a.trans q) r n (s.trans t)
  | ex c fs r => exact fun sg' H' J' fp' cls d w q x t => h sg' H' J' fp' cls d w (a.trans q) x (s.trans t)
  | bad => exact h
theorem FinS.mono {x : R Fl} (m : ∀ i ∈ ws, i ∈ vs) (h : FinS K W vs sg H J fp x D) : FinS K W ws sg H J fp x D := by
  cases x with
  | ok f r =>
    cases f with
    | nx => exact fun sg' H' J' fp' w q t => h sg' H' J' fp' w (q.mono m) t
    | ret z => exact fun v sg' H' J' fp' g w q r n t => h v sg' H' J' fp' g w (q.mono m) r n t
  | ex c fs r => exact fun sg' H' J' fp' cls d w q x t => h sg' H' J' fp' cls d w (q.mono m) x t
  | bad => exact h
theorem FinS.bindD {x : R PyData} {f : PyData → Ro → R Fl} {T : V → Hp → Prop} (h : FinS K W vs sg H J fp (x.bind f) D)
    (k : ∀ d r1 v H1 J1 fp1, x = .ok d r1 → Wf K H1 J1 sg r1 fp1 → Sh K J1 v d → Step (Own fp) H J (Own fp1) H1 J1 → FinS K W vs sg H1 J1 fp1 (f d r1) D → T v H1) : Fin K W (RepD K) sg H J fp x T := by
  cases x with
  | ok d r1 =>
    intro v H1 J1 fp1 g w q n t
    obtain ⟨rfl, q⟩ := q
    exact k d r1 v H1 J1 fp1 rfl w q (step_nil t) (FinS.later .refl (step_nil t) h)
  | ex c fs r => exact fun H' J' fp' cls d w q t => h sg H' J' fp' cls d w .refl q t
  | bad => exact h
theorem FinS.bindS {x : R Slot} {f : Slot → Ro → R Fl} {T : V → Hp → Prop} (h : FinS K W vs sg H J fp (x.bind f) D)
    (k : ∀ s r1 v H1 J1 fp1 g, x = .ok s r1 → Wf K H1 J1 sg r1 fp1 → RepS K H1 J1 s v g → (∀ b ∈ g, J1 b = none ∧ ¬ Own fp1 b) → Step (Own fp) H J (fun b => Own fp1 b ∨ b ∈ g) H1 J1 → FinS K W vs sg H J fp (f s r1) D → T v H1) : Fin K W (RepS K) sg H J fp x T := by
  cases x with
  | ok d r1 => exact fun v H1 J1 fp1 g w q n t => k d r1 v H1 J1 fp1 g rfl w q n t h
  | ex c fs r => exact fun H' J' fp' cls d w q t => h sg H' J' fp' cls d w .refl q t
  | bad => exact h
theorem FinS.bindB {x : R Bool} {f : Bool → Ro → R Fl} {T : Bool → Hp → Prop} (h : FinS K W vs sg H J fp (x.bind f) D)
    (k : ∀ b r1 H1 J1 fp1, x = .ok b r1 → Wf K H1 J1 sg r1 fp1 → FinS K W vs sg H1 J1 fp1 (f b r1) D → T b H1) : FinB K W sg H J fp x T := by
  cases x with
  | ok b r1 => exact fun H1 J1 fp1 w t => k b r1 H1 J1 fp1 rfl w (FinS.later .refl t h)
  | ex c fs r => exact fun H' J' fp' cls d w q t => h sg H' J' fp' cls d w .refl q t
  | bad => exact h
theorem store_read {i : Nat} {x : R Slot} (hv : i ∈ vs) (h : FinS K W vs sg H J fp (x.bind fun s r1 => match asgN i s r1 with | some r2 => .ok .nx r2 | none => .bad) D) :
    Fin K W (RepS K) sg H J fp x fun v H1 => gName i v sg H1 D.nx := by
  refine FinS.bindS h fun s r1 v H1 J1 fp1 g _ w1 q n t f => ?_
  simp only [asgN] at f
  split at f
  · rename_i r2 e
    split at e
    · rename_i hi
      cases e
      have hi := of_decide_eq_true hi
      refine f _ H1 J1 (fpSet fp1 i g) (w1.put hi q fun b z => ⟨(n b z).1, fun j _ y => (n b z).2 ⟨j, y⟩⟩) (.set hv) (t.weak fun b z => (own_set z).elim .inr .inl)
    · cases e
  · exact f.elim
theorem turns_drop {step : PyData → Ro → R Fl} {items : List PyData} {i : Nat} {d : PyData} {r : Ro} (hd : items[i]? = some d) : turns step (items.drop i) r = match step d r with | .ok .nx r' => turns step (items.drop (i + 1)) r' | o => o := by
  have hi := (List.getElem?_eq_some_iff.mp hd).1
  have e : items.drop i = d :: items.drop (i + 1) := by
    rw [List.drop_eq_getElem_cons hi, (List.getElem?_eq_some_iff.mp hd).2]
  rw [e]
  rfl

theorem lks_mem : ∀ {x : List Od} {r : Ro} {ds : List PyData} {ls : List Lk} {r2 : Ro}, lks x r = some (ds, ls, r2) → ∀ p ∈ ls, Od.pl p.1 ∈ x
  | [], r, ds, ls, r2, h, p, hp => by simp only [lks] at h; cases h; cases hp
  | o :: x, r, ds, ls, r2, h, p, hp => by
    simp only [lks] at h
    cases e1 : lk1 r o with
    | none => rw [e1] at h; cases h
    | some q =>
      obtain ⟨d, l, r1⟩ := q
      rw [e1] at h
      simp only at h
      cases e2 : lks x r1 with
      | none => rw [e2] at h; cases h
      | some q2 =>
        obtain ⟨ds', ls', r2'⟩ := q2
        rw [e2] at h
        cases h
        rcases List.mem_append.mp hp with z | z
        · cases o with
          | da d' => cases e1; cases z
          | tm s => cases e1
          | pl i =>
            simp only [lk1] at e1
            split at e1
            · cases e1; cases z
            · cases e1
              cases List.mem_singleton.mp z
              exact List.mem_cons_self ..
            · cases e1
        · exact List.mem_cons_of_mem _ (lks_mem e2 p z)
theorem many_pl {Phi : Nat → Ro → FR} : ∀ {es : CEs} {r : Ro} {x : List Od} {r1 : Ro}, many (rd1 Phi) es r = .ok x r1 → ∀ i, Od.pl i ∈ x → i ∈ lockEs es
  | .nil, r, x, r1, h, i, hp => by
    simp only [many] at h
    cases h
    cases hp
  | .cons c cs, r, x, r1, h, i, hp => by
    simp only [many] at h
    cases e1 : rd1 Phi c r with
    | bad => rw [e1] at h; cases h
    | ex _ _ _ => rw [e1] at h; cases h
    | ok a r2 =>
      rw [e1] at h
      simp only [R.bind] at h
      cases e2 : many (rd1 Phi) cs r2 with
      | bad => rw [e2] at h; cases h
      | ex _ _ _ => rw [e2] at h; cases h
      | ok b r3 =>
        rw [e2] at h
        cases h
        rcases List.mem_cons.mp hp with z | z
        · subst z
          cases c with
          | var j =>
            simp only [rd1] at e1
            split at e1
            · cases e1; exact List.mem_cons_self ..
            · cases e1
          | _ =>
            simp only [rd1] at e1
            generalize (ev Phi _ r).sh = z at e1
            cases z with
            | ok d r4 => simp only [R.ok_bind] at e1; cases e1
            | _ => cases e1
        · have := many_pl e2 i z
          cases c <;> first | exact this | exact List.mem_cons_of_mem _ this
theorem evI_locks {Phi : Nat → Ro → FR} {it : CI} {r r1 : Ro} {items : List PyData} {ls : List Lk} (e : evI Phi it r = .ok (items, ls) r1) : ∀ p ∈ ls, p.1 ∈ lockI it := by
  intro p hp
  cases it with
  | seq c =>
    cases c with
    | var j =>
      simp only [evI, lk1] at e
      cases ed : r[j]? with
      | none => rw [ed] at e; cases e
      | some s =>
        rw [ed] at e
        cases s with
        | sh d =>
          simp only at e
          rcases seqI_cases d [] r with e2 | ⟨xs, e2⟩
          · rw [e2] at e; cases e
          · rw [e2] at e; cases e; cases hp
        | lst ds =>
          simp only [seqI] at e
          cases e
          cases List.mem_singleton.mp hp
          simp [lockI]
        | _ => cases e
    | _ =>
      simp only [evI] at e
      generalize (ev Phi _ r).sh = z at e
      cases z with
      | ok d r2 =>
        simp only [R.ok_bind] at e
        rcases seqI_cases d [] r2 with e2 | ⟨xs, e2⟩
        · rw [e2] at e; cases e
        · rw [e2] at e; cases e; cases hp
      | _ => cases e
  | its c =>
    simp only [evI] at e
    generalize (ev Phi _ r).sh = z at e
    cases z with
    | ok d r2 =>
      simp only [R.ok_bind, itsI] at e
      split at e <;> cases e
      cases hp
    | _ => cases e
  | rng3 c d f =>
    simp only [evI] at e
    generalize (ev Phi c r).sh = z at e
    cases z with
    | ok d1 r2 =>
      simp only [R.ok_bind] at e
      generalize (ev Phi d r2).sh = z at e
      cases z with
      | ok d2 r3 =>
        simp only [R.ok_bind] at e
        generalize (ev Phi f r3).sh = z at e
        cases z with
        | ok d3 r4 =>
          simp only [R.ok_bind] at e
          rcases rng3I_cases d1 d2 d3 r4 with e2 | ⟨m, n, _, _, _, _, _, _, e2⟩
          · rw [e2] at e; cases e
          · rw [e2] at e; cases e; cases hp
        | _ => cases e
      | _ => cases e
    | _ => cases e
  | prs zz es =>
    simp only [evI, rds_many] at e
    cases e2 : many (rd1 Phi) es r with
    | bad => rw [e2] at e; cases e
    | ex _ _ _ => rw [e2] at e; cases e
    | ok x r2 =>
      rw [e2] at e
      simp only [R.ok_bind] at e
      cases el : lks x r2 with
      | none => rw [el] at e; cases e
      | some q =>
        obtain ⟨ds, ls', r3⟩ := q
        rw [el] at e
        simp only at e
        split at e
        · cases e
          exact many_pl e2 _ (lks_mem el p hp)
        · cases e
  | rng1 c =>
    simp only [evI] at e
    generalize (ev Phi _ r).sh = z at e
    cases z with
    | ok d r2 =>
      simp only [R.ok_bind] at e
      split at e
      · split at e <;> cases e
        cases hp
      · cases e
    | _ => cases e
  | rng2 c d =>
    simp only [evI] at e
    generalize (ev Phi c r).sh = z at e
    cases z with
    | ok d r2 =>
      simp only [R.ok_bind] at e
      generalize (ev Phi _ r2).sh = z at e
      cases z with
      | ok d r2 =>
        simp only [R.ok_bind] at e
        split at e
        · split at e <;> cases e
          cases hp
        · cases e
      | _ => cases e
    | _ => cases e
theorem for_read {t : CT} {it : CI} {b : CSs} (hlk : ∀ i ∈ lockI it, i ∉ slotsT t ++ asgds b) (h : tS K W fu Phi (slotsT t ++ asgds b) (.for_ t it b) D sg H) :
    tFor (tI K W Phi it) (tT K t) (tSs K W fu Phi (asgds b) b) D sg H := by
  obtain ⟨J, r, fp, w, f⟩ := h
  refine ⟨J, r, fp, w, ?_⟩
  simp only [ex] at f
  generalize hws : slotsT t ++ asgds b = ws at *
  cases e : evI Phi it r with
  | bad => rw [e] at f; exact f
  | ex c fs r1 => rw [e] at f; exact fun H' J' fp' cls d w q t => f sg H' J' fp' cls d w .refl q t
  | ok a r1 =>
    obtain ⟨items, lks⟩ := a
    rw [e] at f
    simp only [R.ok_bind] at f
    have hl : ∀ p ∈ lks, p.1 ∉ ws := fun p hp => hlk _ (evI_locks e p hp)
    intro T S H1 J1 fp1 g w1 wk s1 kp o1 hlen t1
    simp only at o1 hlen wk
    generalize hst : (fun d q => match asg t d q with
        | some q1 => exs fu Phi b q1
        | none => R.bad) = step at f
    have f' : FinS K W ws sg H J fp ((turns step items r1).bind fun f r2 => .ok f (unlks lks r2)) D := f
    clear f
    have f2 : FinS K W ws sg H1 J1 fp1 ((turns step items r1).bind fun f r2 => .ok f (unlks lks r2)) D → True := fun _ => trivial
    refine ⟨fun i m sg' H' => m = items.length - i ∧ i ≤ items.length ∧ ∃ J' r' fp', Wf K H' J' sg' r' fp' ∧ S H' J' ∧ Lks K H' J' fp' sg' lks g ∧ Agree ws sg sg' ∧
        Step (fun b => Own fp1 b ∨ b ∈ g) H1 J1 (fun b => Own fp' b ∨ b ∈ g) H' J' ∧ turns step (items.drop i) r' = turns step items r1, ⟨_, rfl, Nat.zero_le _, J1, r1, fp1, w1, s1, o1, .refl, Step.refl, rfl⟩, ?_⟩
    rintro i m sg0 H0 ⟨rfl, hi, J0, r0, fp0, w0, s0, o0, ag0, st0, et0⟩
    by_cases hlt : i < items.length
    · refine .inr ⟨wk.go i H0 J0 w0.same s0 hlt, fun sg' H' => _, fun sg' H' q => ⟨items.length - (i + 1), by omega, q⟩, fun x H2 hy => ?_⟩
      obtain ⟨J2, d, hd, hx, sm2, s2, t2⟩ := wk.yld i H0 J0 x H2 w0.same s0 hlt hy
      rw [turns_drop hd] at et0
      have w2 : Wf K H2 J2 sg0 r0 fp0 := w0.step t2 sm2 fun _ _ z => z
      have t2' : Step (Own fp0) H0 J0 (Own fp0) H2 J2 := ⟨t2.js, fun b o q _ => t2.fr b o q id, fun b q => .inl q, fun b q => (t2.jg b q).imp id fun z => z.imp False.elim id⟩
      have o2 : Lks K H2 J2 fp0 sg0 lks g := Lks.stepG t2' (fun _ z => z) o0 fun b q => (o0.off b q).2.1
      have gO : ∀ b ∈ g, ¬ Own fp0 b := fun b q => (o2.off b q).2.1
      have st2 : Step (fun b => Own fp1 b ∨ b ∈ g) H1 J1 (fun b => Own fp0 b ∨ b ∈ g) H2 J2 := st0.trans ⟨t2.js, fun b o q _ => t2.fr b o q id, fun b q => .inl q, fun b q => (t2.jg b q).imp id fun z => z.imp False.elim id⟩
      cases ea : asg t d r0 with
      | none =>
        have : step d r0 = .bad := by rw [← hst]; simp only [ea]
        rw [this] at et0
        rw [← et0] at f'
        exact f'.elim
      | some q1 =>
        have hstep : step d r0 = exs fu Phi b q1 := by rw [← hst]; simp only [ea]
        rw [hstep] at et0
        refine asg_ok ea w2 hx fun sg3 fp3 w3 own3 ag3 => ⟨J2, q1, fp3, w3, ?_⟩
        have ag03 : Agree ws sg sg3 := ag0.trans (ag3.mono fun j z => by rw [← hws]; exact List.mem_append.mpr (.inl z))
        have lift : ∀ {F' : Addr → Prop} {H4 J4 : Hp}, Step (Own fp3) H2 J2 F' H4 J4 → Step (fun b => Own fp0 b ∨ b ∈ g) H2 J2 (fun b => F' b ∨ b ∈ g) H4 J4 := fun {F' H4 J4} t =>
          ⟨t.js, fun b o q n => t.fr b o q fun z => n (.inl (own3 b z)), fun b q => q.elim (fun q => (t.fn b q).imp (fun z => .inl (own3 b z)) id) fun q => .inl (.inr q), fun b q => (t.jg b q).imp id fun z => z.imp (fun z => .inl (own3 b z)) id⟩
        have gF : ∀ b ∈ g, ¬ Own fp3 b := fun b q z => gO b q (own3 b z)
        have o3 : Lks K H2 J2 fp3 sg3 lks g := Lks.agree (ag3.mono fun j z => by rw [← hws]; exact List.mem_append.mpr (.inl z)) hl (Lks.stepG (Step.refl (F := Own fp0)) own3 o2 gO)
        cases eb : exs fu Phi b q1 with
        | bad =>
          rw [eb] at et0
          rw [← et0] at f'
          exact f'.elim
        | ex c fs r4 =>
          rw [eb] at et0
          rw [← et0] at f'
          intro sg4 H4 J4 fp4 cls dd w4 ag4 q4 t4
          refine f' sg4 H4 J4 fp4 cls dd w4 (ag03.trans (ag4.mono fun j z => by rw [← hws]; exact List.mem_append.mpr (.inr z))) q4 ((t1.trans (st2.trans (lift t4))).weak fun b z => .inl z)
        | ok fl r4 =>
          rw [eb] at et0
          cases fl with
          | ret z =>
            rw [← et0] at f'
            intro v sg4 H4 J4 fp4 g4 w4 ag4 q4 n4 t4
            have ag4' : Agree ws sg3 sg4 := ag4.mono fun j z => by rw [← hws]; exact List.mem_append.mpr (.inr z)
            have o4 : Lks K H4 J4 fp4 sg4 lks g := Lks.agree ag4' hl (Lks.stepG t4 (fun b z => .inl z) o3 gF)
            obtain ⟨fp5, w5, own5⟩ := o4.unlock w4
            refine f' v sg4 H4 J4 fp5 g4 w5 (ag03.trans ag4') q4 (fun b z => ⟨(n4 b z).1, fun q => ?_⟩) ((t1.trans (st2.trans (lift t4))).weak fun b q => ?_)
            · rcases own5 b q with q | q
              · exact (n4 b z).2 q
              · obtain ⟨_, _, o, ho, _⟩ := o3.off b q
                rcases t4.fn b (.inr z) with y | y
                · exact gF b q y
                · rw [ho] at y; cases y
            · rcases q with q | q
              · exact (own5 b q).elim (fun z => .inl (.inl z)) .inr
              · exact .inl (.inr q)
          | nx =>
            intro sg4 H4 J4 fp4 w4 ag4 t4
            have ag4' : Agree ws sg3 sg4 := ag4.mono fun j z => by rw [← hws]; exact List.mem_append.mpr (.inr z)
            exact ⟨rfl, hlt, J4, r4, fp4, w4, kp _ _ _ _ _ _ s2 t4 gF, Lks.agree ag4' hl (Lks.stepG t4 (fun b z => z) o3 gF), ag03.trans ag4', st2.trans (lift t4), et0⟩
    · have ei : i = items.length := by omega
      refine .inl ⟨wk.stop i H0 J0 w0.same s0 (by omega) (by omega), ?_⟩
      rw [ei, List.drop_length] at et0
      rw [← et0] at f'
      obtain ⟨fp3, w3, own3⟩ := o0.unlock w0
      exact f' sg0 H0 J0 fp3 w3 ag0 ((t1.trans st0).weak fun b q => own3 b q)
end
end Ev
end

section
set_option Elab.async false
set_option linter.all false
set_option maxRecDepth 100000
set_option maxHeartbeats 4000000
namespace Ev
open PySem L2
variable [Errs]
section
variable {K : PySem.W.Frag} {H J : Hp}
theorem RepDD.keep {H' J' : Hp} (js : Same J J') : ∀ {as : List Addr} {kss : List (PyData × List (PyData × PyData))}, RepDD K H J as kss → (∀ c ∈ as, ∀ o, H c = some o → H' c = some o) → RepDD K H' J' as kss
  | [], [], _, _ => trivial
  | [], _ :: _, h, _ => h.elim
  | _ :: _, [], h, _ => h.elim
  | b :: bs, q :: kss, ⟨⟨ho, h1, h2⟩, h⟩, n => ⟨⟨ho, n b (by simp) _ h1, h2.mono js⟩, h.keep js fun c hc => n c (List.mem_cons_of_mem _ hc)⟩
end
section
variable {K : PySem.W.Frag} {W : WX} {fu : Nat} {Phi : Nat → Ro → FR} {sg : St} {H : Hp} {D : Ends}
end
end Ev
end

section
set_option Elab.async false
set_option linter.all false
set_option maxRecDepth 100000
set_option maxHeartbeats 4000000
namespace Ev
open PySem L2
variable [Errs]
section
variable {K : PySem.W.Frag} {H J : Hp}
theorem RepF.nodup : ∀ {x : Fd} {v : V} {g : List Addr}, RepF K H J x v g → g.Nodup
  | .sh _, _, _, h => by rw [h.1]; exact List.nodup_nil
  | .lst _, _, _, ⟨a, _, _, h, _⟩ => by rw [h]; simp
  | .dct _ _, _, _, ⟨a, _, _, h, _⟩ => by rw [h]; simp
theorem RepFs.put {f : Str} {x : Fd} {y : V} {g : List Addr} (hx : RepF K H J x y g) : ∀ {fs : List (Str × Fd)} {fv : List (Str × V)} {gs : List Addr}, RepFs K H J fs fv gs → gs.Nodup → (∀ b ∈ g, b ∉ gs) → ∃ gs', RepFs K H J (putFd f x fs) (putF f y fv) gs' ∧ gs'.Nodup ∧ ∀ b ∈ gs', b ∈ gs ∨ b ∈ g
  | [], [], gs, h, nd, na => by
    refine ⟨g, ?_, hx.nodup, fun b q => .inr q⟩
    exact ⟨rfl, g, [], by simp, hx, rfl⟩
  | [], _ :: _, _, h, _, _ => h.elim
  | _ :: _, [], _, h, _, _ => h.elim
  | (a, z) :: fs, (a', v) :: fv, gs, ⟨e, g1, g2, eg, h1, h2⟩, nd, na => by
    subst e
    rw [eg] at nd na
    have nd' := List.nodup_append.mp nd
    by_cases q : a = f
    · refine ⟨g ++ g2, ?_, ?_, fun b hb => ?_⟩
      · simp only [putFd, putF, if_pos q]
        exact ⟨rfl, g, g2, rfl, hx, h2⟩
      · rw [List.nodup_append]
        exact ⟨hx.nodup, nd'.2.1, fun b hb c hc z => na b hb (by rw [z]; exact List.mem_append.mpr (.inr hc))⟩
      · rw [eg]
        exact (List.mem_append.mp hb).elim .inr fun z => .inl (List.mem_append.mpr (.inr z))
    · obtain ⟨gs', r1, r2, r3⟩ := h2.put hx nd'.2.1 fun b hb z => na b hb (List.mem_append.mpr (.inr z))
      refine ⟨g1 ++ gs', ?_, ?_, fun b hb => ?_⟩
      · simp only [putFd, putF, if_neg q]
        exact ⟨rfl, g1, gs', rfl, h1, r1⟩
      · rw [List.nodup_append]
        refine ⟨nd'.1, r2, fun b hb c hc z => ?_⟩
        rw [← z] at hc
        rcases r3 b hc with y | y
        · exact nd'.2.2 b hb b y rfl
        · exact na b y (List.mem_append.mpr (.inl hb))
      · rw [eg]
        rcases List.mem_append.mp hb with y | y
        · exact .inl (List.mem_append.mpr (.inl y))
        · exact (r3 b y).imp (fun y => List.mem_append.mpr (.inr y)) id
end
section
variable {K : PySem.W.Frag} {H J : Hp} {sg : St} {r : Ro} {fp : Nat → List Addr}
end
mutual
theorem shDel {K : PySem.W.Frag} {J J2 : Hp} {a : Addr} {C dx : Addr} {fv : List (Str × V)} (ha : J a = some (.ins C dx fv)) (h2 : ∀ b, b ≠ a → J2 b = J b) : ∀ {d : PyData} {v : V}, Sh K J v d → Sh K J2 v d
  | _, _, .non => .non
  | _, _, .bl b => .bl b
  | _, _, .int i => .int i
  | _, _, .str x => .str x
  | _, _, .lst h g => .lst (by rw [h2 _ (fun z => by rw [z, ha] at h; cases h)]; exact h) (shsDel ha h2 g)
  | _, _, .tup h g => .tup (by rw [h2 _ (fun z => by rw [z, ha] at h; cases h)]; exact h) (shsDel ha h2 g)
  | _, _, .scr h => .scr (by
      rcases h with (h | ⟨o, h⟩) | h
      · exact .inl (.inl (by rw [h2 _ (fun z => by rw [z, ha] at h; cases h)]; exact h))
      · exact .inl (.inr ⟨o, by rw [h2 _ (fun z => by rw [z, ha] at h; cases h)]; exact h⟩)
      · exact .inr h)
  | _, _, .dK h k g => .dK (by rw [h2 _ (fun z => by rw [z, ha] at h; cases h)]; exact h) k (shsDel ha h2 g)
  | _, _, .dT h k g => .dT (by rw [h2 _ (fun z => by rw [z, ha] at h; cases h)]; exact h) k (shsDel ha h2 g)
  | _, _, .exc0 n h => .exc0 n (by rw [h2 _ (fun z => by rw [z, ha] at h; cases h)]; exact h)
  | _, _, .exc1 n h k g => .exc1 n (by rw [h2 _ (fun z => by rw [z, ha] at h; cases h)]; exact h) (by rw [h2 _ (fun z => by rw [z, ha] at k; cases k)]; exact k) (shDel ha h2 g)
  | _, _, .fnv k h => .fnv k h
theorem shsDel {K : PySem.W.Frag} {J J2 : Hp} {a : Addr} {C dx : Addr} {fv : List (Str × V)} (ha : J a = some (.ins C dx fv)) (h2 : ∀ b, b ≠ a → J2 b = J b) : ∀ {ds : List PyData} {vs : List V}, ShAll K J vs ds → ShAll K J2 vs ds
  | _, _, .nil => .nil
  | _, _, .cons h g => .cons (shDel ha h2 h) (shsDel ha h2 g)
end
section
variable {K : PySem.W.Frag} {H J J2 : Hp} {a C dx : Addr} {fv : List (Str × V)}
theorem DRep.del (ha : J a = some (.ins C dx fv)) (h2 : ∀ b, b ≠ a → J2 b = J b) {ho : HO} : ∀ {t : Bool} {kvs : List (PyData × PyData)}, DRep K J ho t kvs → DRep K J2 ho t kvs
  | false, _, ⟨ks, e1, e2, e3⟩ => ⟨ks, e1, e2, shsDel ha h2 e3⟩
  | true, _, ⟨ks, e1, e2, e3⟩ => ⟨ks, e1, e2, shsDel ha h2 e3⟩
theorem RepF.del (ha : J a = some (.ins C dx fv)) (h2 : ∀ b, b ≠ a → J2 b = J b) : ∀ {x : Fd} {v : V} {g : List Addr}, RepF K H J x v g → RepF K H J2 x v g
  | .sh _, _, _, ⟨h1, h3⟩ => ⟨h1, shDel ha h2 h3⟩
  | .lst _, _, _, ⟨l, xs, e1, e2, e3, e4⟩ => ⟨l, xs, e1, e2, e3, shsDel ha h2 e4⟩
  | .dct _ _, _, _, ⟨l, ho, e1, e2, e3, e4⟩ => ⟨l, ho, e1, e2, e3, e4.del ha h2⟩
theorem RepFs.del (ha : J a = some (.ins C dx fv)) (h2 : ∀ b, b ≠ a → J2 b = J b) : ∀ {fs : List (Str × Fd)} {fv' : List (Str × V)} {g : List Addr}, RepFs K H J fs fv' g → RepFs K H J2 fs fv' g
  | [], [], _, h => h
  | [], _ :: _, _, h => h.elim
  | _ :: _, [], _, h => h.elim
  | (_, _) :: _, (_, _) :: _, _, ⟨e, g1, g2, eg, q1, q2⟩ => ⟨e, g1, g2, eg, q1.del ha h2, q2.del ha h2⟩
theorem RepL.del (ha : J a = some (.ins C dx fv)) (h2 : ∀ b, b ≠ a → J2 b = J b) : ∀ {as : List Addr} {dss : List (List PyData)}, RepL K H J as dss → RepL K H J2 as dss
  | [], [], _ => trivial
  | [], _ :: _, h => h.elim
  | _ :: _, [], h => h.elim
  | b :: bs, ds :: dss, ⟨⟨xs, h1, h3⟩, h⟩ => ⟨⟨xs, h1, shsDel ha h2 h3⟩, h.del ha h2⟩
theorem RepDD.del (ha : J a = some (.ins C dx fv)) (h2 : ∀ b, b ≠ a → J2 b = J b) : ∀ {as : List Addr} {kss : List (PyData × List (PyData × PyData))}, RepDD K H J as kss → RepDD K H J2 as kss
  | [], [], _ => trivial
  | [], _ :: _, h => h.elim
  | _ :: _, [], h => h.elim
  | b :: bs, q :: kss, ⟨⟨ho, h1, h3⟩, h⟩ => ⟨⟨ho, h1, h3.del ha h2⟩, h.del ha h2⟩
theorem RepS.del (ha : J a = some (.ins C dx fv)) (h2 : ∀ b, b ≠ a → J2 b = J b) : ∀ {s : Slot} {v : V} {g : List Addr}, isRob s = false → RepS K H J s v g → RepS K H J2 s v g
  | .non, _, _, _, h => h
  | .sh _, _, _, _, ⟨h1, h3⟩ => ⟨h1, shDel ha h2 h3⟩
  | .lst _, _, _, _, ⟨l, xs, e1, e2, e3, e4⟩ => ⟨l, xs, e1, e2, e3, shsDel ha h2 e4⟩
  | .dct _ _, _, _, _, ⟨l, ho, e1, e2, e3, e4⟩ => ⟨l, ho, e1, e2, e3, e4.del ha h2⟩
  | .obj _ _, _, _, _, ⟨l, dx', fv', gs, e1, e2, nd, e3, e4, e5⟩ => ⟨l, dx', fv', gs, e1, e2, nd, e3, e4, e5.del ha h2⟩
  | .rob _ _, _, _, e, _ => nomatch e
  | .ll _ _, _, _, _, ⟨l, as, e1, nd, h, k⟩ => ⟨l, as, e1, nd, h.del ha h2, k.imp id fun ⟨x, e, y⟩ => ⟨x, e, by rw [h2 l (fun z => by rw [z, ha] at y; cases y)]; exact y⟩⟩
  | .dd _, _, _, _, ⟨l, as, ks, e1, e2, nd, e3, k1, k2, h⟩ => ⟨l, as, ks, e1, e2, nd, e3, k1, k2, h.del ha h2⟩
  | .tl _ _, _, _, _, ⟨l, b, vd, xs, e1, e2, h, k1, k2, q⟩ => ⟨l, b, vd, xs, e1, e2, by rw [h2 l (fun z => by rw [z, ha] at h; cases h)]; exact h, shDel ha h2 k1, k2, shsDel ha h2 q⟩
end
section
variable {K : PySem.W.Frag} {W : WX} {fu : Nat} {Phi : Nat → Ro → FR} {sg : St} {H : Hp} {D : Ends}
end
end Ev
end

section
set_option maxHeartbeats 8000000
set_option Elab.async false
set_option linter.all false
set_option maxRecDepth 100000
namespace Ev
open PySem L2
variable [Errs]
section
variable {P : Prg} {N : List Str} {k : Nat} {Phi : Nat → Ro → FR} {X : Cx} {sc : Scope} {fb : Str → Bool}
theorem folded_ok {l vs : List Expr} {k k2 : _} {p p2 : Pos} {env : Env} (h : vs.all (foldedForSure 8) = true) : swappedStores [.Tuple l k p] (.Tuple vs k2 p2) env = pure none := by
  unfold swappedStores
  simp only [h, if_true]
  repeat' split
  all_goals rfl
end
end Ev
end

section
set_option Elab.async false
set_option linter.all false
set_option maxRecDepth 100000
set_option maxHeartbeats 4000000
namespace Ev
open PySem L2
variable [Errs]

section
variable {K : PySem.W.Frag} {W : WX} {fu : Nat} {Phi : Nat → Ro → FR} {vs ws : List Nat} {sg sg1 : St} {H J H1 J1 : Hp} {fp fp1 : Nat → List Addr} {D : Ends}
theorem sw_eq {X : Cx} {sc : Scope} {e : Expr} {x : Str} {py : Pos} {l : Nat} (hsc : X.env.scope = sc) (hk : sc.kind = .function) (hne : ∀ a b c d e', e ≠ .DictComp a b c d e') (hns : ∀ a b c d, e ≠ .SetComp a b c d) :
    swapsWith e (some (.Name x py)) l X.env = pure (swB sc e x py) := by
  cases e <;> first | rfl | exact absurd rfl (hne _ _ _ _ _) | exact absurd rfl (hns _ _ _ _) | skip
  rename_i elt gs scope pos
  have hb : X.env.blockKind = .function := by unfold Env.blockKind; rw [hsc, hk]; rfl
  have hx : X.env.kindOf x = sc.names.lookup x := by show X.env.scope.names.lookup x = _; rw [hsc]
  unfold swapsWith swB
  simp only [hb, hx, Expr.pos]
  have e1 : (List.lookup x sc.names == some NameKind.local) = decide (List.lookup x sc.names = some NameKind.local) := by
    cases List.lookup x sc.names with
    | none => rfl
    | some q => cases q <;> rfl
  rw [e1]
  rfl
end

section
variable {P : Prg} {N : List Str} {k : Nat} {Phi : Nat → Ro → FR} {X : Cx} {sc : Scope} {fb : Str → Bool} {W : WX} {fu : Nat}
theorem own_write {K : PySem.W.Frag} {H J : Hp} {sg : St} {r : Ro} {fp : Nat → List Addr} {i : Nat} {a : Addr} {ds : List PyData} (w : Wf K H J sg r fp) (hv : sg[i]? = some (some (.ref a))) (ed : r[i]? = some (.lst ds)) :
    ∃ xs, H a = some (.lst xs) ∧ ShAll K J xs ds ∧ ∀ {ys : List V} {es : List PyData}, ShAll K J ys es → ∃ fp2, Wf K (upd H a (.lst ys)) J sg (r.set i (.lst es)) fp2 ∧ Step (Own fp) H J (Own fp2) (upd H a (.lst ys)) J := by
  obtain ⟨v', hv', a', xs, e1, hg, ha, hd⟩ := w.rep i _ ed (fun z => nomatch z)
  rw [hv] at hv'
  cases hv'
  cases e1
  have mem : a ∈ fp i := by rw [hg]; exact List.mem_singleton.mpr rfl
  have hi : i < r.length := (List.getElem?_eq_some_iff.mp ed).1
  have jn := (w.jn i a mem).1
  refine ⟨xs, ha, hd, fun {ys es} hy => ?_⟩
  have w2 : Wf K (upd H a (.lst ys)) J sg (r.set i .non) (fpSet fp i []) := (w.drop i).step (step_upd (D := a)) (same_updN w.same jn) fun b z y => own_wipe_ne w mem (by rw [← y]; exact z)
  have w3 := w2.putKeep (i := i) (s := .lst es) (v := .ref a) (g := [a]) (by rw [List.length_set]; exact hi) hv ⟨a, _, rfl, rfl, upd_same, hy⟩ fun b z => by
    cases List.mem_singleton.mp z
    exact ⟨jn, fun k hk y => own_wipe_ne w mem ⟨k, y⟩⟩
  rw [List.set_set] at w3
  refine ⟨_, w3, Same.refl _, fun b o q nb => ?_, fun b q => ?_, fun b q => .inl q⟩
  · rw [upd_ne fun z => nb (by rw [z]; exact ⟨i, mem⟩)]
    exact q
  · rcases own_set q with z | z
    · cases List.mem_singleton.mp z; exact .inl ⟨i, mem⟩
    · exact .inl (own_wipe z)
theorem own_writeD {K : PySem.W.Frag} {H J : Hp} {sg : St} {r : Ro} {fp : Nat → List Addr} {i : Nat} {a : Addr} {tt : Bool} {kvs : List (PyData × PyData)} (w : Wf K H J sg r fp) (hv : sg[i]? = some (some (.ref a))) (ed : r[i]? = some (.dct tt kvs)) :
    ∃ ho, H a = some ho ∧ DRep K J ho tt kvs ∧ ∀ {ho' : HO} {kvs' : List (PyData × PyData)}, DRep K J ho' tt kvs' → ∃ fp2, Wf K (upd H a ho') J sg (r.set i (.dct tt kvs')) fp2 ∧ Step (Own fp) H J (Own fp2) (upd H a ho') J := by
  obtain ⟨v', hv', a', ho, e1, hg, ha, hd⟩ := w.rep i _ ed (fun z => nomatch z)
  rw [hv] at hv'
  cases hv'
  cases e1
  have mem : a ∈ fp i := by rw [hg]; exact List.mem_singleton.mpr rfl
  have hi : i < r.length := (List.getElem?_eq_some_iff.mp ed).1
  have jn := (w.jn i a mem).1
  refine ⟨ho, ha, hd, fun {ho' kvs'} hy => ?_⟩
  have w2 : Wf K (upd H a ho') J sg (r.set i .non) (fpSet fp i []) := (w.drop i).step (step_upd (D := a)) (same_updN w.same jn) fun b z y => own_wipe_ne w mem (by rw [← y]; exact z)
  have w3 := w2.putKeep (i := i) (s := .dct tt kvs') (v := .ref a) (g := [a]) (by rw [List.length_set]; exact hi) hv ⟨a, ho', rfl, rfl, upd_same, hy⟩ fun b z => by
    cases List.mem_singleton.mp z
    exact ⟨jn, fun k hk y => own_wipe_ne w mem ⟨k, y⟩⟩
  rw [List.set_set] at w3
  refine ⟨_, w3, Same.refl _, fun b o q nb => ?_, fun b q => ?_, fun b q => .inl q⟩
  · rw [upd_ne fun z => nb (by rw [z]; exact ⟨i, mem⟩)]
    exact q
  · rcases own_set q with z | z
    · cases List.mem_singleton.mp z; exact .inl ⟨i, mem⟩
    · exact .inl (own_wipe z)
theorem DRep.put {K : PySem.W.Frag} {H J : Hp} {a : Addr} {ho : HO} {t : Bool} {kvs : List (PyData × PyData)} {v u : V} {d x : PyData} (h : DRep K J ho t kvs) (sm : Same J H) (ha : H a = some ho) (hk : KeyV H v t d) (hl : kvs.length < 16777216) (hv : Sh K J u x) :
    ∃ ho', DPut H a v u (upd H a ho') ∧ DRep K J ho' t (putD d x kvs) := by
  cases t with
  | false =>
    obtain ⟨ks, rfl, h1, h2⟩ := h
    obtain ⟨k, rfl, rfl⟩ := hk
    have e : ks.length = kvs.length := by simpa using (congrArg List.length h1).symm
    obtain ⟨p1, p2⟩ := putK_rep (k := k) (v := u) (d := x) keq_dk h1 h2 hv
    exact ⟨_, DPut.k ha (by rw [e, sizeLine_eq]; exact hl), _, rfl, p1, p2⟩
  | true =>
    obtain ⟨ks, rfl, h1, h2⟩ := h
    obtain ⟨b, k, rfl, hb, rfl⟩ := hk
    have e : ks.length = kvs.length := by simpa using (congrArg List.length h1).symm
    obtain ⟨p1, p2⟩ := putK_rep (kf := fun (k : List Key) => PyData.tuple (k.map keyDK)) (k := k) (v := u) (d := x) keq_dt h1 h2 hv
    exact ⟨_, DPut.t ha hb (by rw [e, sizeLine_eq]; exact hl), _, rfl, p1, p2⟩
theorem set_or {X : Cx} {t t' : TSet} (h : PSet X t) (h' : PSet X t') : PSet X (fun o i v H Q => t o i v H Q ∨ t' o i v H Q) := fun pins s sg H o i v ov iv u Q I ro ri rv q => q.elim (h pins s sg H o i v ov iv u Q I ro ri rv) (h' pins s sg H o i v ov iv u Q I ro ri rv)
theorem Wf.anyAt {K : PySem.W.Frag} {H J : Hp} {sg : St} {r : Ro} {fp : Nat → List Addr} (w : Wf K H J sg r fp) {i : Nat} {o : Option V} (e : r[i]? = some .non) : Wf K H J (sg.set i o) r fp where
  same := w.same
  len := by rw [List.length_set]; exact w.len
  rep := fun j s ej ne => by
    by_cases z : j = i
    · rw [z, e] at ej; cases ej; exact absurd rfl ne
    · rw [List.getElem?_set_ne fun q => z q.symm]
      exact w.rep j s ej ne
  emp := w.emp
  dis := w.dis
  jn := w.jn
theorem Wf.gone {K : PySem.W.Frag} {H J : Hp} {sg : St} {r : Ro} {fp : Nat → List Addr} (w : Wf K H J sg r fp) (i : Nat) : Wf K H J (sg.set i none) (r.set i .non) (fpSet fp i []) := by
  by_cases h : i < r.length
  · exact (w.drop i).anyAt (by rw [List.getElem?_set_self h])
  · rw [List.set_eq_of_length_le (l := sg) (by rw [w.len]; omega)]
    exact w.drop i
structure Frm (X : Cx) : Prop where
  hs : X.stack = X.env :: X.outer
  hf : X.env.frame = some X.env.locals
  hx : X.ex = []
theorem Frm.tr {X : Cx} (f : Frm X) (pn : List (Addr × Obj)) (xe : Value → Shared → Prop) : Frm (X.tr pn xe) := ⟨f.hs, f.hf, f.hx⟩
theorem noDC {e : Expr} (h : noDCb e = true) : (∀ a b c d e', e ≠ .DictComp a b c d e') ∧ (∀ a b c d, e ≠ .SetComp a b c d) := by
  constructor
  · rintro a b c' d e' rfl; cases h
  · rintro a b c' d rfl; cases h
theorem notLcSw {e : Expr} {l : Nat} {env : Env} (h : isLc e = false) : swapsWith e none l env = pure false := by
  cases e <;> first | rfl | (simp [isLc] at h)
theorem seq_read {s : CS} {ss : CSs} {D : Ends} {sg : St} {H : Hp} (h : tSs X.K W fu Phi (asgd s ++ asgds ss) (.cons s ss) D sg H) : tSeq (tS X.K W fu Phi (asgd s) s) (tSs X.K W fu Phi (asgds ss) ss) D sg H := by
  obtain ⟨J, r, fp, w, f⟩ := h
  refine ⟨J, r, fp, w, ?_⟩
  simp only [exs] at f
  have m1 : ∀ i ∈ asgd s, i ∈ asgd s ++ asgds ss := fun i z => List.mem_append.mpr (.inl z)
  have m2 : ∀ i ∈ asgds ss, i ∈ asgd s ++ asgds ss := fun i z => List.mem_append.mpr (.inr z)
  cases e : ex fu Phi s r with
  | bad => rw [e] at f; exact f
  | ex c fs r1 => rw [e] at f; exact fun sg' H' J' fp' cls d w a q t => f sg' H' J' fp' cls d w (a.mono m1) q t
  | ok fl r1 =>
    rw [e] at f
    cases fl with
    | ret z => exact fun v sg' H' J' fp' g w a q n t => f v sg' H' J' fp' g w (a.mono m1) q n t
    | nx => exact fun sg' H' J' fp' w a t => ⟨J', r1, fp', w, FinS.mono m2 (FinS.later (a.mono m1) t f)⟩

abbrev Prg.low (P : Prg) : Prg := { tx := { P.tx with cm := false } }
theorem Good.suite {X : Cx} (g : Good P N k Phi X sc fb) (a : Addr) (pn : List (Addr × Obj)) : Good P.low N k Phi (X.suite a pn) sc fb where
  hN := g.hN
  nd := g.nd
  hsc := g.hsc
  kd := g.kd
  hfb := g.hfb
  calm := fun z => nomatch z
  room := ⟨(fun z => nomatch z), g.room.dp, g.room.un⟩
  gd := g.gd
  blt := g.blt
  fns := g.fns
  fvs := g.fvs
  fnn := g.fnn
  csts := g.csts
  ers := ⟨g.ers.ex, g.ers.fld, g.ers.cl, g.ers.rs, g.ers.rf⟩
  obs := ⟨g.obs.mks, g.obs.mts, g.obs.fls⟩
theorem Frm.suite {X : Cx} (f : Frm X) (a : Addr) (pn : List (Addr × Obj)) : Frm (X.suite a pn) := ⟨f.hs, f.hf, f.hx⟩
mutual
theorem soundS : ∀ (c : CS) {P : Prg} {X : Cx} {W : WX} {st : Stmt}, Good P N k Phi X sc fb → Frm X → Takes X W → PassesOwn (model X.prog X.w) X.A X.env X.xe → okS P.tx N sc fb c st = true → PS X st (tS X.K W fu Phi (asgd c) c)
  | .set (.name i) c, P, X, W, st, g, fr, tk, hp, h => by
    unfold okS at h
    split at h <;> first | (rename_i q; cases q; done) | skip
    all_goals first | (cases h; done) | skip
    rename_i x py e _
    simp only [Bool.and_eq_true, Bool.not_eq_true'] at h
    obtain ⟨⟨⟨h1, h2⟩, h3⟩, hdc⟩ := h
    obtain ⟨a1, a2, a3⟩ := isL_ok (pos := py) g h1
    obtain ⟨d1, d2⟩ := noDC hdc
    refine PS.imp (ps_set (by rw [g.hN]; exact g.nd) a1 a2 (sound c g tk h2).1 (by rw [sw_eq g.hsc g.kd d1 d2, h3]) a3) fun D sg H ⟨J, r, fp, w, f⟩ => ?_
    simp only [ex] at f
    exact ⟨J, r, fp, w, store_read (by simp [asgd, slotsT]) f⟩
  | .set (.tup ts) c, P, X, W, st, g, fr, tk, hp, h => by
    unfold okS at h
    split at h <;> first | (rename_i q; cases q; done) | skip
    all_goals first | (cases h; done) | skip
    rename_i l kk p e _
    simp only [Bool.and_eq_true] at h
    obtain ⟨⟨⟨⟨h1, h2⟩, h3⟩, hcm⟩, hdc⟩ := h
    obtain ⟨d1, d2⟩ := noDC hdc
    refine PS.imp (ps_asg (PE.sh (sound c g tk h2).1) (soundT _ g hcm h1) ?_ ?_) fun D sg H ⟨J, r, fp, w, f⟩ => ?_
    · cases e <;> first | rfl | (simp at h3; done) | skip
    · cases e <;> first | rfl | exact folded_ok h3 | (simp at h3; done) | skip
    · simp only [ex] at f
      refine ⟨J, r, fp, w, FinS.bindD f fun d r1 v H1 J1 fp1 _ w1 q t1 f1 => ?_⟩
      cases ea : asg (.tup ts) d r1 with
      | none => rw [ea] at f1; exact f1.elim
      | some r2 =>
        rw [ea] at f1
        exact asg_ok ea w1 q fun sg' fp' w' o' a' => f1 sg' H1 J1 fp' w' a' (Step.refl.weak o')
  | .setLc i c, P, X, W, st, g, fr, tk, hp, h => by
    unfold okS at h
    split at h <;> first | (rename_i q; cases q; done) | skip
    all_goals first | (cases h; done) | skip
    rename_i elt tg it cond own q
    cases q
    split at h <;> first | (cases h; done) | skip
    rename_i x py e _
    simp only [Bool.and_eq_true, decide_eq_true_eq] at h
    obtain ⟨⟨⟨⟨h1, h2⟩, h3⟩, h4⟩, hdc⟩ := h
    obtain ⟨d1, d2⟩ := noDC hdc
    have hsw := sw_eq (l := 0) (x := x) (py := py) g.hsc g.kd d1 d2
    cases e <;> try simp only [okE, Bool.false_eq_true] at h3
    rename_i e gs scope pos
    match gs, h3 with
    | [], h3 => simp only [okE, Bool.false_eq_true] at h3
    | _ :: _ :: _, h3 => simp only [okE, Bool.false_eq_true] at h3
    | [⟨t, i', ifs, a⟩], h3 =>
      by_cases ha : a = 0
      · subst ha
        simp only [okE, Bool.and_eq_true] at h3
        obtain ⟨⟨⟨⟨⟨⟨hcm, k1⟩, k2⟩, k3⟩, k4⟩, k5⟩, k6⟩ := h3
        have bk := blkOk_by k1
        have hso : ∀ j ∈ slotsT tg, j ∈ own.map (·.2) := fun j q => of_decide_eq_true (List.all_eq_true.mp k6 j q)
        refine PS.imp (ps_setLc (own := own) (wi := tI X.K W Phi it) (g := tT X.K tg) (tt := tCs X.K W0 Phi cond) (te := tSh X.K W0 Phi elt) (g.calm hcm) (by rw [g.hN]; exact g.nd) (by rw [g.hN]; exact h1) (by rw [g.hsc]; exact h2) (by rw [sw_eq g.hsc g.kd d1 d2, h4]) (soundI it g tk k3) (by rw [g.hN, g.hsc]; exact bk) (fun s H C cl fp => soundT _ (g.blk bk.kind) hcm k2) (fun s H C cl fp => soundC cond (g.blk bk.kind) takes0 k4)
          (fun s H C cl fp => PE.sh (sound elt (g.blk bk.kind) takes0 k5).1) (foldS (notSetI k3))) fun D sg H ⟨J, r, fp, w, f⟩ => ?_
        simp only [ex] at f
        exact lc_read hso ⟨J, r, fp, w, store_read (by simp [asgd]) f⟩
      · exfalso
        split at h3
        · rename_i q
          simp_all
        · cases h3
  | .move i j, P, X, W, st, g, fr, tk, hp, h => by
    unfold okS at h
    split at h <;> first | (rename_i q; cases q; done) | skip
    all_goals first | (cases h; done) | skip
    rename_i x py y pp pos
    simp only [Bool.and_eq_true, decide_eq_true_eq] at h
    obtain ⟨⟨h1, h2⟩, h3⟩ := h
    obtain ⟨a1, a2, a3⟩ := isL_ok (pos := py) g h1
    refine PS.imp (ps_set (by rw [g.hN]; exact g.nd) a1 a2 (isV_ok g h2) rfl a3) fun D sg H ⟨J, r, fp, w, f⟩ => ?_
    simp only [ex] at f
    split at f
    · rename_i ds ed
      obtain ⟨v, hv, q⟩ := w.rep j _ ed (fun z => nomatch z)
      refine ⟨v, hv, ?_⟩
      simp only [asgN] at f
      split at f
      · rename_i r2 e
        split at e
        · rename_i hi
          cases e
          have hi := of_decide_eq_true hi
          refine f _ H J (fpSet (fpSet fp j []) i (fp j)) ((w.drop j).put hi q fun b z => ⟨(w.jn j b z).1, fun l _ y => own_wipe_ne w z ⟨l, y⟩⟩) (.set (by simp [asgd])) (Step.refl.weak fun b z => (own_set z).elim (fun z => ⟨j, z⟩) own_wipe)
        · cases e
      · exact f.elim
    · rename_i tt kvs ed
      obtain ⟨v, hv, q⟩ := w.rep j _ ed (fun z => nomatch z)
      refine ⟨v, hv, ?_⟩
      simp only [asgN] at f
      split at f
      · rename_i r2 e
        split at e
        · rename_i hi
          cases e
          have hi := of_decide_eq_true hi
          refine f _ H J (fpSet (fpSet fp j []) i (fp j)) ((w.drop j).put hi q fun b z => ⟨(w.jn j b z).1, fun l _ y => own_wipe_ne w z ⟨l, y⟩⟩) (.set (by simp [asgd])) (Step.refl.weak fun b z => (own_set z).elim (fun z => ⟨j, z⟩) own_wipe)
        · cases e
      · exact f.elim
    · rename_i d ed
      obtain ⟨v, hv, q⟩ := w.rep j _ ed (fun z => nomatch z)
      refine ⟨v, hv, ?_⟩
      simp only [asgN] at f
      split at f
      · rename_i r2 e
        split at e
        · rename_i hi
          cases e
          exact f _ H J _ (w.putSh (of_decide_eq_true hi) q.2) (.set (by simp [asgd])) (Step.refl.weak fun b z => own_wipe z)
        · cases e
      · exact f.elim
    · exact f.elim
  | .aug i o c, P, X, W, st, g, fr, tk, hp, h => by
    unfold okS at h
    first | (cases h; done) | (split at h <;> first | (rename_i q; cases q; done) | (cases h; done))
  | .ite c a b, P, X, W, st, g, fr, tk, hp, h => by
    unfold okS at h
    split at h <;> first | (rename_i q; cases q; done) | skip
    all_goals first | (cases h; done) | skip
    rename_i e l m _
    simp only [Bool.and_eq_true] at h
    obtain ⟨⟨h1, h2⟩, h3⟩ := h
    refine PS.imp (ps_if (sound c g tk h1).2.1 (soundSs a g fr tk hp h2) (soundSs b g fr tk hp h3)) fun D sg H ⟨J, r, fp, w, f⟩ => ?_
    simp only [ex] at f
    refine ⟨J, r, fp, w, FinS.bindB f fun x r1 H1 J1 fp1 _ w1 f1 => ?_⟩
    cases x with
    | true =>
      rw [if_pos rfl]
      exact ⟨J1, r1, fp1, w1, FinS.mono (fun i z => List.mem_append.mpr (.inl z)) f1⟩
    | false =>
      rw [if_neg Bool.false_ne_true]
      exact ⟨J1, r1, fp1, w1, FinS.mono (fun i z => List.mem_append.mpr (.inr z)) f1⟩
  | .for_ t it b, P, X, W, st, g, fr, tk, hp, h => by
    unfold okS at h
    split at h <;> first | (rename_i q; cases q; done) | skip
    all_goals first | (cases h; done) | skip
    rename_i tg e l _
    simp only [Bool.and_eq_true] at h
    obtain ⟨⟨⟨⟨hcm, h1⟩, h2⟩, h3⟩, h4⟩ := h
    exact PS.imp (ps_for hp (g.calm hcm) (soundI it g tk h2) (soundT _ g hcm h1) (soundSs b g fr tk hp h3) (foldS (notSetI h2))) fun D sg H q => for_read (fun i z => of_decide_eq_true (List.all_eq_true.mp h4 i z)) q
  | .while_ c b, P, X, W, st, g, fr, tk, hp, h => by
    unfold okS at h
    first | (cases h; done) | (split at h <;> first | (rename_i q; cases q; done) | (cases h; done))
  | .ret c, P, X, W, st, g, fr, tk, hp, h => by
    unfold okS at h
    split at h <;> first | (rename_i q; cases q; done) | skip
    all_goals first | (cases h; done) | skip
    · rename_i e pos
      have s1 := (sound c g tk h).1
      have gen : (∀ r, ex fu Phi (.ret c) r = (ev Phi c r).bind fun s r1 => .ok (.ret s) r1) → PS X (.Return (some e) pos) (tS X.K W fu Phi (asgd (.ret c)) (.ret c)) := fun e1 => by
        refine PS.imp (ps_ret s1) fun D sg H ⟨J, r, fp, w, f⟩ => ⟨J, r, fp, w, ?_⟩
        rw [e1] at f
        refine FinS.bindS f fun s r1 v H1 J1 fp1 g _ w1 q n t f1 => f1 v sg H1 J1 fp1 g w1 .refl q n t
      cases c with
      | var i =>
        cases e <;> try simp only [okE, Bool.false_eq_true] at h
        refine PS.imp (ps_ret (isV_ok g h)) fun D sg H ⟨J, r, fp, w, f⟩ => ?_
        simp only [ex] at f
        split at f
        · rename_i d ed
          obtain ⟨v, hv, q⟩ := w.rep i _ ed (fun z => nomatch z)
          exact ⟨v, hv, f v sg H J fp [] w .refl ⟨rfl, q.2⟩ (fun b z => nomatch z) (nil_step Step.refl)⟩
        · rename_i ds ed
          obtain ⟨v, hv, q⟩ := w.rep i _ ed (fun z => nomatch z)
          exact ⟨v, hv, f v sg H J (fpSet fp i []) (fp i) (w.drop i) .refl q (fun b z => ⟨(w.jn i b z).1, own_wipe_ne w z⟩) (Step.refl.weak fun b z => z.elim own_wipe fun z => ⟨i, z⟩)⟩
        · rename_i tt ds ed
          obtain ⟨v, hv, q⟩ := w.rep i _ ed (fun z => nomatch z)
          exact ⟨v, hv, f v sg H J (fpSet fp i []) (fp i) (w.drop i) .refl q (fun b z => ⟨(w.jn i b z).1, own_wipe_ne w z⟩) (Step.refl.weak fun b z => z.elim own_wipe fun z => ⟨i, z⟩)⟩
        · rename_i cc ff ed
          obtain ⟨v, hv, q⟩ := w.rep i _ ed (fun z => nomatch z)
          exact ⟨v, hv, f v sg H J (fpSet fp i []) (fp i) (w.drop i) .refl q (fun b z => ⟨(w.jn i b z).1, own_wipe_ne w z⟩) (Step.refl.weak fun b z => z.elim own_wipe fun z => ⟨i, z⟩)⟩
        · exact f.elim
      | _ => exact gen fun r => by simp only [ex]
    · have hc : c = .cst .none := by
        unfold isNC at h
        split at h
        · rfl
        · cases h
      subst hc
      refine PS.imp ps_retN fun D sg H ⟨J, r, fp, w, f⟩ => ?_
      simp only [ex, ev, R.ok_bind] at f
      exact f .non sg H J fp [] w .refl ⟨rfl, .non⟩ (fun b z => nomatch z) (nil_step Step.refl)
  | .expr c, P, X, W, st, g, fr, tk, hp, h => by
    unfold okS at h
    split at h <;> first | (rename_i q; cases q; done) | skip
    all_goals first | (cases h; done) | skip
    rename_i e _
    simp only [Bool.and_eq_true, Bool.not_eq_true'] at h
    refine PS.imp (ps_expr (sound c g tk h.1).1 (notLcSw h.2)) fun D sg H ⟨J, r, fp, w, f⟩ => ⟨J, r, fp, w, ?_⟩
    simp only [ex] at f
    refine FinS.bindS f fun s r1 v H1 J1 fp1 g _ w1 q n t f1 => f1 sg H1 J1 fp1 w1 .refl (t.weak fun b z => .inl z)
  | .append i c, P, X, W, st, g, fr, tk, hp, h => by
    unfold okS at h
    split at h <;> first | (rename_i q; cases q; done) | skip
    all_goals first | (cases h; done) | skip
    rename_i e _
    split at h
    · rename_i x hx
      obtain ⟨y, p, ap, cp, rfl, hv, hs, hl⟩ := mthd_ok hx
      have he := PE.sh (sound c g tk h).1
      refine PS.imp (ps_expr (meth_list g PySem.F.slot_list_append PySem.F.type_list_append mt_append hv hs hl he) (notLcSw rfl)) fun D sg H ⟨J, r, fp, w, f⟩ => ?_
      simp only [ex] at f
      split at f
      · rename_i ds0 ed0
        obtain ⟨v, hv, a, xs0, rfl, hg0, ha0, hd0⟩ := w.rep i _ ed0 (fun z => nomatch z)
        refine ⟨_, hv, .inl ⟨rfl, xs0, .of ha0⟩, J, r, fp, w, FinS.bindD f fun d r1 v1 H1 J1 fp1 ee w1 q t1 f1 => ?_⟩
        clear ee
        split at f1
        · rename_i ds ed
          split at f1
          · rename_i hlen
            obtain ⟨xs, ha, hd, key⟩ := own_write w1 hv ed
            exact ⟨a, xs, v1, rfl, rfl, ha, by rw [shsLen hd, sizeLine_eq]; exact of_decide_eq_true hlen, let ⟨fp2, w2, t2⟩ := key (shsApp hd (.cons q .nil)); f1 sg _ J1 fp2 w2 .refl t2⟩
          · exact f1.elim
        · exact f1.elim
      · exact f.elim
    · cases h
  | .extend i c, P, X, W, st, g, fr, tk, hp, h => by
    unfold okS at h
    split at h <;> first | (rename_i q; cases q; done) | skip
    all_goals first | (cases h; done) | skip
    rename_i e _
    split at h
    · rename_i x hx
      obtain ⟨y, p, ap, cp, rfl, hv, hs, hl⟩ := mthd_ok hx
      have he := PE.sh (sound c g tk h).1
      refine PS.imp (ps_expr (meth_list g PySem.F.slot_list_extend PySem.F.type_list_extend mt_extend hv hs hl he) (notLcSw rfl)) fun D sg H ⟨J, r, fp, w, f⟩ => ?_
      simp only [ex] at f
      split at f
      · rename_i ds0 ed0
        obtain ⟨v, hv, a, xs0, rfl, hg0, ha0, hd0⟩ := w.rep i _ ed0 (fun z => nomatch z)
        refine ⟨_, hv, .inl ⟨rfl, xs0, .of ha0⟩, J, r, fp, w, FinS.bindD f fun d r1 v1 H1 J1 fp1 ee w1 q t1 f1 => ?_⟩
        clear ee
        split at f1
        · rename_i ds ys ed
          split at f1
          · rename_i hlen
            cases q with
            | lst hb hz =>
              obtain ⟨xs, ha, hd, key⟩ := own_write w1 hv ed
              exact ⟨a, _, xs, _, rfl, rfl, ha, w1.same _ _ hb, by rw [shsLen hd, shsLen hz, sizeLine_eq]; exact of_decide_eq_true hlen, let ⟨fp2, w2, t2⟩ := key (shsApp hd hz); f1 sg _ J1 fp2 w2 .refl t2⟩
          · exact f1.elim
        · exact f1.elim
      · exact f.elim
    · cases h
  | .rem i c, P, X, W, st, g, fr, tk, hp, h => by
    unfold okS at h
    first | (cases h; done) | (split at h <;> first | (rename_i q; cases q; done) | (cases h; done))
  | .rev_ i, P, X, W, st, g, fr, tk, hp, h => by
    unfold okS at h
    first | (cases h; done) | (split at h <;> first | (rename_i q; cases q; done) | (cases h; done))
  | .setdef i kk c, P, X, W, st, g, fr, tk, hp, h => by
    unfold okS at h
    first | (cases h; done) | (split at h <;> first | (rename_i q; cases q; done) | (cases h; done))
  | .setItem i kk c, P, X, W, st, g, fr, tk, hp, h => by
    unfold okS at h
    split at h <;> first | (rename_i q; cases q; done) | skip
    all_goals first | (cases h; done) | skip
    rename_i x px s ps e _
    simp only [Bool.and_eq_true, Bool.not_eq_true'] at h
    obtain ⟨⟨⟨h1, h2⟩, h3⟩, h4⟩ := h
    have he := PE.sh (sound c g tk h3).1
    have hk := PE.sh (sound kk g tk h2).1
    have hu : X.A.units + 1 < cLine := by have := g.room.un; omega
    refine PS.imp (ps_asg he (pg_sub (isV_ok g h1) hk (set_or set_list (set_dict hu)) ?_) ?_ ?_) fun D sg H ⟨J, r, fp, w, f⟩ => ?_
    · intro v
      cases s <;> first | rfl | (simp [isSlice] at h4)
    · cases e <;> rfl
    · cases e <;> rfl
    · simp only [ex] at f
      refine ⟨J, r, fp, w, FinS.bindD f fun d r1 v H1 J1 fp1 ee w1 q t1 f1 => ?_⟩
      clear ee
      split at f1
      · rename_i ds0 ed0
        obtain ⟨v', hv, a, xs0, rfl, hg0, ha0, hd0⟩ := w1.rep i _ ed0 (fun z => nomatch z)
        refine ⟨_, hv, J1, r1, fp1, w1, FinS.bindD f1 fun z r2 v2 H2 J2 fp2 ee w2 q2 t2 f2 => ?_⟩
        clear ee
        split at f2
        · rename_i n ds ed
          split at f2
          · rename_i j hj
            cases q2
            obtain ⟨xs, ha, hd, key⟩ := own_write w2 hv ed
            exact .inl ⟨a, xs, n, j, rfl, rfl, ha, by rw [shsLen hd]; exact hj, let ⟨fp3, w3, t3⟩ := key (shsSet (shMono t2.js q) hd); f2 sg _ J2 fp3 w3 .refl t3⟩
          · exact f2.elim
        · exact f2.elim
      · rename_i tt0 kv0 ed0
        obtain ⟨v', hv, a, ho0, rfl, hg0, ha0, hd0⟩ := w1.rep i _ ed0 (fun z => nomatch z)
        refine ⟨_, hv, J1, r1, fp1, w1, FinS.bindD f1 fun z r2 v2 H2 J2 fp2 ee w2 q2 t2 f2 => ?_⟩
        clear ee
        split at f2
        · rename_i tt kvs ed
          split at f2
          · rename_i hc
            simp only [Bool.and_eq_true, decide_eq_true_eq] at hc
            obtain ⟨ho, ha, hd, key⟩ := own_writeD w2 hv ed
            obtain ⟨ho', hput, hd'⟩ := hd.put w2.same ha (Vw.key w2.same (.inl q2) hc.1) hc.2 (shMono t2.js q)
            obtain ⟨fp3, w3, t3⟩ := key hd'
            exact .inr ⟨a, _, rfl, hput, f2 sg _ J2 fp3 w3 .refl t3⟩
          · exact f2.elim
        · exact f2.elim
      · exact f1.elim
  | .raise_ c f es, P, X, W, st, g, fr, tk, hp, h => by
    unfold okS at h
    split at h <;> first | (rename_i q; cases q; done) | skip
    all_goals first | (cases h; done) | skip
    · rename_i q
      cases q
      split at h <;> first | (cases h; done) | skip
      rename_i x p1 m jj p2 p3 p4
      simp only [Bool.and_eq_true, decide_eq_true_eq] at h
      obtain ⟨⟨⟨hg, hl⟩, rfl⟩, hcm⟩ := h
      obtain ⟨h1, h2⟩ := isG_ok g hg
      obtain ⟨e1, e2, e3, e4, e5, e6⟩ := g.ers.rs x c hl
      refine PS.imp (ps_raise (g.calm hcm) tk (pmk_own PySem.F.excBase_ValueError e4 e2 e3 (raises_own e5 e6) h1 h2)) fun D sg H ⟨J, r, fp, w, f⟩ => ?_
      simp only [ex] at f
      exact f sg H J fp (.ref (Errs.ca c)) none w .refl ⟨e1, rfl, .inl ⟨rfl, rfl⟩⟩ Step.refl
    · rename_i c1 q
      cases q
      split at h <;> first | (cases h; done) | skip
      rename_i x p1 a p2 p3
      simp only [Bool.and_eq_true, decide_eq_true_eq] at h
      obtain ⟨⟨⟨⟨hg, hl⟩, hne⟩, hc⟩, hcm⟩ := h
      obtain ⟨h1, h2⟩ := isG_ok g hg
      obtain ⟨e1, e2, T, hno, fI, C0, fd, qu, st0, iC, tI, F, S, hf, B, hb⟩ := g.ers.rf x c f hl hne
      have s1 := star_ok (env := X.env) (es := []) (okE_star hc)
      have ps : Passes (L2.CX X.prog X.w) X (fun _ _ _ => False) := by
        intro pins sg H s e s' I h
        obtain ⟨_, _, _, _, _, _, _, _, _, _, _, _, z⟩ := h
        exact z.elim
      refine PS.imp (ps_raise (g.calm hcm) tk (pmk_oex T iC tI (init_ok F S hf B) ((g.room.of hcm).mono (by omega)) hb .nil ps h1 e2 (pa_cons (PE.sh (sound c1 g tk hc).1) pa_nil s1) h2 s1 rfl)) fun D sg H ⟨J, r, fp, w, f1⟩ => ?_
      simp only [ex] at f1
      refine ⟨J, r, fp, w, FinS.bindD f1 fun d r1 v1 H1 J1 fp1 ee w1 q1 t1 f2 => ?_⟩
      refine ⟨by show 1 ≤ 1000; decide, fun aa ha => ⟨aa, Errs.ca c, v1, rfl, T, hno, upd_same, fun dx hd hda => ⟨rfl, dx, [(Str.ofString f, v1)], upd_same, ?_, ?_, ?_⟩⟩⟩
      · rw [upd_ne hda, upd_same]
      · rw [upd_ne hda] at hd; exact hd
      · have hd1 : H1 dx = none := by rw [upd_ne hda] at hd; exact hd
        have eh : upd (del (upd (upd (upd H1 aa (exo aa (Errs.ca c) none)) dx (exd dx [(Str.ofString f, v1)])) aa (exo aa (Errs.ca c) (some dx))) aa) dx (.xd [(Str.ofString f, v1)]) = upd H1 dx (.xd [(Str.ofString f, v1)]) := by
          funext b
          by_cases hb1 : b = dx
          · rw [hb1, upd_same, upd_same]
          · rw [upd_ne hb1, upd_ne hb1]
            by_cases hb2 : b = aa
            · rw [hb2, del_same, ha]
            · rw [del_ne hb2, upd_ne hb2, upd_ne hb1, upd_ne hb2]
        rw [eh]
        have st : Step (Own fp1) H1 J1 (Own fp1) (upd H1 dx (.xd [(Str.ofString f, v1)])) (upd J1 dx (.xd [(Str.ofString f, v1)])) := step_new w1.same hd1
        exact f2 sg _ (upd J1 dx (.xd [(Str.ofString f, v1)])) fp1 (.ref (Errs.ca c)) (some dx) (w1.new hd1) .refl ⟨e1, rfl, .inr ⟨dx, _, v1, d, rfl, rfl, upd_same, shMono st.js q1⟩⟩ st
  | .retP i j, P, X, W, st, g, fr, tk, hp, h => by
    unfold okS at h
    first | (cases h; done) | (split at h <;> first | (rename_i q; cases q; done) | (cases h; done))
  | .setP y z c, P, X, W, st, g, fr, tk, hp, h => by
    unfold okS at h
    first | (cases h; done) | (split at h <;> first | (rename_i q; cases q; done) | (cases h; done))
  | .par i j c d, P, X, W, st, g, fr, tk, hp, h => by
    unfold okS at h
    first | (cases h; done) | (split at h <;> first | (rename_i q; cases q; done) | (cases h; done))
  | .fput c i f e, P, X, W, st, g, fr, tk, hp, h => by
    unfold okS at h
    first | (cases h; done) | (split at h <;> first | (rename_i q; cases q; done) | (cases h; done))
  | .appL i k e, P, X, W, st, g, fr, tk, hp, h => by
    unfold okS at h
    first | (cases h; done) | (split at h <;> first | (rename_i q; cases q; done) | (cases h; done))
  | .fapp c i f e, P, X, W, st, g, fr, tk, hp, h => by
    unfold okS at h
    first | (cases h; done) | (split at h <;> first | (rename_i q; cases q; done) | (cases h; done))
  | .forF c t i f b, P, X, W, st, g, fr, tk, hp, h => by
    unfold okS at h
    first | (cases h; done) | (split at h <;> first | (rename_i q; cases q; done) | (cases h; done))
  | .forD t i b, P, X, W, st, g, fr, tk, hp, h => by
    unfold okS at h
    first | (cases h; done) | (split at h <;> first | (rename_i q; cases q; done) | (cases h; done))
  | .try_ b cs i y, P, X, W, st, g, fr, tk, hp, h => by
    unfold okS at h
    first | (cases h; done) | (split at h <;> first | (rename_i q; cases q; done) | (cases h; done))
  | .tlApp i c, P, X, W, st, g, fr, tk, hp, h => by
    unfold okS at h
    first | (cases h; done) | (split at h <;> first | (rename_i q; cases q; done) | (cases h; done))
  | .tlRev i, P, X, W, st, g, fr, tk, hp, h => by
    unfold okS at h
    first | (cases h; done) | (split at h <;> first | (rename_i q; cases q; done) | (cases h; done))
  | .tlClr i, P, X, W, st, g, fr, tk, hp, h => by
    unfold okS at h
    first | (cases h; done) | (split at h <;> first | (rename_i q; cases q; done) | (cases h; done))
  | .pass, P, X, W, st, g, fr, tk, hp, h => by
    unfold okS at h
    first | (cases h; done) | (split at h <;> first | (rename_i q; cases q; done) | (cases h; done))
  | .tryS b cs i ss, P, X, W, st, g, fr, tk, hp, h => by
    unfold okS at h
    split at h <;> first | (rename_i q; cases q; done) | skip
    all_goals first | (cases h; done) | skip
    rename_i l x p1 n s0 su p2 p3
    simp only [Bool.and_eq_true, decide_eq_true_eq] at h
    obtain ⟨⟨⟨⟨⟨⟨hb, hg⟩, hcl⟩, hi⟩, hln⟩, hss⟩, hni⟩ := h
    obtain ⟨h1, h2⟩ := isG_ok g hg
    obtain ⟨v, cv, hv, rv, hm, hck, hex⟩ := g.ers.cl x cs hcl
    have hnames : Names X x cv := ⟨h1, h2, hm⟩
    have body : ∀ (W' : WX) (pn : List (Addr × Obj)) (xe : Value → Shared → Prop), Takes (X.tr pn xe) W' → PassesOwn (model X.prog X.w) X.A X.env xe → PSs (X.tr pn xe) l (tSs X.K W' fu Phi (asgds b) b) := fun W' pn xe tk' hp' => soundSs b (g.tr pn xe) (fr.tr pn xe) tk' hp' hb
    have suite : ∀ (a : Addr) (cls : Value) (d : Option Addr) (pn : List (Addr × Obj)), PSs (X.suite a pn) (s0 :: su) (tSs X.K W0 fu Phi (asgds ss) ss) := fun a cls d pn =>
      soundSs ss (P := P.low) (X := X.suite a pn) (W := W0) (g.suite a pn) (fr.suite a pn) takes0 PassesOwn.never hss
    refine PS.imp (ps_try_trk fr.hs fr.hf fr.hx (by rw [g.hN]; exact g.nd) (by rw [g.hN]; exact hi) (by show X.env.scope.names.lookup n = _; rw [g.hsc]; exact hln) hnames tk body suite) fun D sg H ⟨J, r, fp, w, f⟩ => ⟨J, r, fp, w, ?_⟩
    simp only [ex] at f
    have m1 : ∀ j ∈ asgds b, j ∈ asgds b ++ i :: asgds ss := fun j z => List.mem_append.mpr (.inl z)
    have m2 : ∀ j ∈ asgds ss, j ∈ asgds b ++ i :: asgds ss := fun j z => List.mem_append.mpr (.inr (List.mem_cons_of_mem _ z))
    have mi : i ∈ asgds b ++ i :: asgds ss := List.mem_append.mpr (.inr List.mem_cons_self)
    cases e : exs fu Phi b r with
    | bad => rw [e] at f; exact f
    | ok fl r1 =>
      rw [e] at f
      cases fl with
      | nx => exact fun sg' H' J' fp' w' ag t => f sg' H' J' fp' w' (ag.mono m1) t
      | ret s => exact fun v sg' H' J' fp' g w' ag q n t => f v sg' H' J' fp' g w' (ag.mono m1) q n t
    | ex c fs r1 =>
      rw [e] at f
      simp only at f
      intro sg1 H1 J1 fp1 cls d w1 ag1 q1 t1
      obtain ⟨hc, rfl, q1⟩ := q1
      refine ⟨decide (c ∈ cs), hex c hc, fun hyes a ha => ?_, fun hno => ?_⟩
      · rw [if_pos hyes] at f
        split at f
        · rename_i hil
          have hil := of_decide_eq_true hil
          have hls : i < sg1.length := by rw [w1.len]; exact hil
          have ja : J1 a = none := by
            cases ej : J1 a with
            | none => rfl
            | some o => rw [w1.same _ _ ej] at ha; cases ha
          have st : Step (Own fp1) H1 J1 (Own fp1) (upd H1 a (XO (.ref (Errs.ca c)) d a)) (upd J1 a (XO (.ref (Errs.ca c)) d a)) := step_new w1.same ha
          have sh : Sh X.K (upd J1 a (XO (.ref (Errs.ca c)) d a)) (.ref a) (excD c fs) := by
            rcases q1 with ⟨rfl, rfl⟩ | ⟨dd, ff, vv, xx, rfl, rfl, hdd, hsh⟩
            · exact .exc0 hc upd_same
            · exact .exc1 hc upd_same (by rw [upd_ne (ne_of_none hdd ja)]; exact hdd) (shMono st.js hsh)
          have w3 := (w1.new (o := XO (.ref (Errs.ca c)) d a) ha).putSh (i := i) hil sh
          refine ⟨_, _, _, w3, ?_⟩
          have ts := t1.trans (st.weak (F2 := Own (fpSet fp1 i [])) fun b z => own_wipe z)
          have aA := (ag1.mono m1).trans (Agree.set (o := some (V.ref a)) mi)
          cases e2 : exs fu Phi ss (r1.set i (.sh (excD c fs))) with
          | bad => rw [e2] at f; exact f
          | ex _ _ _ => rw [e2] at f; exact (show False from f).elim
          | ok fl r2 =>
            rw [e2] at f
            cases fl with
            | nx => exact fun sg' H' J' fp' w' ag t => f (sg'.set i none) H' J' _ (w'.gone i) (aA.trans ((ag.mono m2).trans (Agree.set mi))) ((ts.trans t).weak fun b z => own_wipe z)
            | ret s => exact fun v sg' H' J' fp' g w' ag q n t => f v (sg'.set i none) H' J' _ g (w'.gone i) (aA.trans ((ag.mono m2).trans (Agree.set mi))) q (fun b hb => ⟨(n b hb).1, fun z => (n b hb).2 (own_wipe z)⟩) ((ts.trans t).weak fun b z => z.imp own_wipe id)
        · exact f.elim
      · rw [if_neg (by rw [hno]; exact Bool.false_ne_true)] at f
        exact f sg1 H1 J1 fp1 _ d w1 (ag1.mono m1) ⟨hc, rfl, q1⟩ t1
theorem soundSs : ∀ (cs : CSs) {P : Prg} {X : Cx} {W : WX} {l : List Stmt}, Good P N k Phi X sc fb → Frm X → Takes X W → PassesOwn (model X.prog X.w) X.A X.env X.xe → okSs P.tx N sc fb cs l = true → PSs X l (tSs X.K W fu Phi (asgds cs) cs)
  | .nil, P, X, W, l, g, fr, tk, hp, h => by
    cases l with
    | cons _ _ => simp [okSs] at h
    | nil => exact PSs.imp pss_nil fun D sg H ⟨J, r, fp, w, f⟩ => f sg H J fp w .refl Step.refl
  | .cons s ss, P, X, W, l, g, fr, tk, hp, h => by
    cases l with
    | nil => simp [okSs] at h
    | cons x l =>
      simp only [okSs, Bool.and_eq_true] at h
      exact PSs.imp (pss_cons (soundS s g fr tk hp h.1) (soundSs ss g fr tk hp h.2)) fun D sg H q => seq_read q
  | .sub i j kk ss, P, X, W, l, g, fr, tk, hp, h => by
    unfold okSs at h
    first | (cases h; done) | (split at h <;> first | (rename_i q; cases q; done) | (cases h; done))
end
end
end Ev
end

section
set_option Elab.async false
set_option linter.all false
set_option maxRecDepth 100000
set_option maxHeartbeats 4000000
namespace Ev
open PySem L2
variable [Errs]

theorem okArgs_get {muts : List Nat} : ∀ {args : Ro} {n : Nat}, okArgs muts n args = true → ∀ i s, args[i]? = some s → (∃ d, s = .sh d) ∨ n + i ∈ muts
  | [], n, _, i, s, e => by simp at e
  | .sh d :: r, n, h, i, s, e => by
    simp only [okArgs] at h
    cases i with
    | zero => simp at e; exact .inl ⟨d, e.symm⟩
    | succ i =>
      have := okArgs_get h i s (by simpa using e)
      rw [Nat.add_right_comm] at this
      exact this
  | .lst ds :: r, n, h, i, s, e => by
    simp only [okArgs, Bool.and_eq_true, decide_eq_true_eq] at h
    cases i with
    | zero => exact .inr h.1
    | succ i =>
      have := okArgs_get h.2 i s (by simpa using e)
      rw [Nat.add_right_comm] at this
      exact this
  | .dct _ _ :: r, n, h, i, s, e => by
    simp only [okArgs, Bool.and_eq_true, decide_eq_true_eq] at h
    cases i with
    | zero => exact .inr h.1
    | succ i =>
      have := okArgs_get h.2 i s (by simpa using e)
      rw [Nat.add_right_comm] at this
      exact this
  | .obj _ _ :: r, n, h, i, s, e => by
    simp only [okArgs, Bool.and_eq_true, decide_eq_true_eq] at h
    cases i with
    | zero => exact .inr h.1
    | succ i =>
      have := okArgs_get h.2 i s (by simpa using e)
      rw [Nat.add_right_comm] at this
      exact this
  | .non :: r, n, h, _, _, _ => by simp [okArgs] at h
  | .rob _ _ :: r, n, h, _, _, _ => by simp [okArgs] at h
  | .ll _ _ :: r, n, h, _, _, _ => by simp [okArgs] at h
  | .dd _ :: r, n, h, _, _, _ => by simp [okArgs] at h
  | .tl _ _ :: r, n, h, _, _, _ => by simp [okArgs] at h

section
variable {K : PySem.W.Frag} {H J H' J' : Hp} {sg : St} {r : Ro} {fp fp' : Nat → List Addr}
theorem Wf.pad (w : Wf K H J sg r fp) (n : Nat) : Wf K H J (sg ++ List.replicate n none) (r ++ List.replicate n .non) fp where
  same := w.same
  len := by rw [List.length_append, List.length_append, List.length_replicate, List.length_replicate, w.len]
  rep := fun i s e ne => by
    by_cases hi : i < r.length
    · rw [List.getElem?_append_left hi] at e
      rw [List.getElem?_append_left (by rw [w.len]; exact hi)]
      exact w.rep i s e ne
    · rw [List.getElem?_append_right (Nat.le_of_not_lt hi), List.getElem?_replicate] at e
      split at e
      · cases e; exact absurd rfl ne
      · cases e
  emp := fun i e => by
    by_cases hi : i < r.length
    · rw [List.getElem?_append_left hi] at e
      exact w.emp i e
    · exact w.emp i (.inl (List.getElem?_eq_none (Nat.le_of_not_lt hi)))
  dis := w.dis
  jn := w.jn
theorem outs_ok {muts : List Nat} {vs : List V} {args : Ro} {n : Nat} {sg' : St} {r' : Ro} {ws : List Nat} {F F' : Addr → Prop} (w : Wf K H J (vs.map some) args fp) (hok : okArgs muts 0 args = true) (w' : Wf K H' J' sg' r' fp')
    (ag : Agree ws (vs.map some ++ List.replicate n none) sg') (hm : ∀ i ∈ muts, i ∉ ws) (t : Step F H J F' H' J') : ∃ fpO, Wf K H' J' (vs.map some) (outsOf muts args r') fpO ∧ ∀ b, Own fpO b → Own fp' b := by
  have hl : vs.length = args.length := by have := w.len; rwa [List.length_map] at this
  have get : ∀ i, i < args.length → (outsOf muts args r')[i]? = some (if decide (i ∈ muts) = true then r'.getD i .non else args.getD i .non) := fun i hi => by
    simp [outsOf, hi]
  have getN : ∀ i, ¬ i < args.length → (outsOf muts args r')[i]? = none := fun i hi => by
    simp [outsOf]; omega
  have hsg : ∀ i, i ∈ muts → i < args.length → sg'[i]? = (vs.map some)[i]? := fun i h1 h2 => by
    rw [ag.2 i (hm i h1), List.getElem?_append_left (by rw [List.length_map, hl]; exact h2)]
  refine ⟨fun i => if i ∈ muts ∧ i < args.length then fp' i else [], ⟨w'.same, ?_, fun i s e ne => ?_, fun i e => ?_, fun i j b h1 h2 => ?_, fun i b h1 => ?_⟩, fun b ⟨i, h1⟩ => ?_⟩
  · simp [outsOf, hl]
  · by_cases hi : i < args.length
    · rw [get i hi] at e
      by_cases hmi : i ∈ muts
      · simp only [hmi, decide_true, if_true] at e
        rw [if_pos ⟨hmi, hi⟩]
        have hr' : r'[i]? = some s := by
          cases q : r'[i]? with
          | none => rw [List.getD_eq_getElem?_getD, q] at e; cases e; exact absurd rfl ne
          | some z => rw [List.getD_eq_getElem?_getD, q] at e; exact e
        obtain ⟨v, h1, h2⟩ := w'.rep i s hr' ne
        exact ⟨v, by rw [← hsg i hmi hi]; exact h1, h2⟩
      · simp only [hmi, decide_false, Bool.false_eq_true, if_false] at e
        rw [if_neg fun z => hmi z.1]
        have ha : args[i]? = some s := by
          rw [List.getD_eq_getElem?_getD, List.getElem?_eq_getElem hi] at e
          rw [List.getElem?_eq_getElem hi]
          exact e
        obtain ⟨v, h1, h2⟩ := w.rep i s ha ne
        refine ⟨v, h1, ?_⟩
        rcases okArgs_get hok i s ha with ⟨d, rfl⟩ | z
        · exact ⟨rfl, shMono t.js h2.2⟩
        · rw [Nat.zero_add] at z; exact absurd z hmi
    · rw [getN i hi] at e; cases e
  · by_cases hi : i < args.length
    · rw [get i hi] at e
      by_cases hmi : i ∈ muts
      · simp only [hmi, decide_true, if_true] at e
        rw [if_pos ⟨hmi, hi⟩]
        refine w'.emp i ?_
        cases q : r'[i]? with
        | none => exact .inl rfl
        | some z =>
          rw [List.getD_eq_getElem?_getD, q] at e
          simp at e
          exact .inr (by rw [e])
      · rw [if_neg fun z => hmi z.1]
    · rw [if_neg fun z => hi z.2]
  · (try simp only at h1 h2)
    split at h1
    · split at h2
      · exact w'.dis i j b h1 h2
      · cases h2
    · cases h1
  · (try simp only at h1)
    split at h1
    · exact w'.jn i b h1
    · cases h1
  · simp only at h1
    split at h1
    · exact ⟨i, h1⟩
    · cases h1
end

section
variable {P : Prg} {pr : Program} {w : World} {K : PySem.W.Frag} {mg : Str → Option Value} {base : Heap} {N ps : List Str} {k fu : Nat} {Phi : Nat → Ro → FR}
theorem fn_sound {x qual : Str} {st : Stmt} {f : Addr} {fd : FuncData} {F : Fn} (FF : Fun K x qual st f fd) (S : FnScope N ps (defScope st)) (hok : okSs P.tx N (defScope st) (fun _ => true) F.body (defBody st) = true) (hnp : F.np = ps.length) (hnn : F.nn = N.length)
    (hm : ∀ i ∈ F.muts, i ∉ asgds F.body) (blt : ∀ x ∈ bnames, mg x = none)
    (fns : ∀ f x, P.tx.names[f]? = some x → ∃ a fd ps, FnG pr w K mg base (L2.CX pr w) (2 * k + 2) a fd ps (spF K (Phi f)) ∧ mg x = some (.ref a) ∧ PySem.W.keepIn K (.ref a) = true ∧ Binds K fd ps [])
    (fvs : ∀ f x, P.tx.names[f]? = some x → f < Errs.fn ∧ mg x = some (.ref (Errs.fa f))) (fnn : ∀ f, f < Errs.fn → ∃ x, P.tx.names[f]? = some x)
    (csts : ∀ x d, P.tx.consts.lookup x = some d → ∃ u, mg x = some u ∧ match d with | .int j => ∃ t, u = .int j t | .str j => ∃ t, u = .str j t | _ => True) (ers : ErrsOk K mg P.tx) (obs : ObsOk pr w K mg base k Phi P.tx) :
    FnG pr w K mg base (L2.CX pr w) (2 * (k + 1) + 2) f fd ps (spF K (runF fu Phi F)) := by
  refine Fun.okG (k := 2 * k + 3) FF S (fun vs H Q E h => ?_) (fun cdv A outer s H vs Q E gd hr h => ?_)
  · obtain ⟨J, args, fp, wf, h⟩ := h
    have hl := wf.len
    rw [List.length_map] at hl
    by_cases hc : (decide (args.length = F.np) && okArgs F.muts 0 args) = true
    · simp only [Bool.and_eq_true, decide_eq_true_eq] at hc
      rw [hl, hc.1, hnp]
    · have e : runF fu Phi F args = .bad := by unfold runF; rw [if_neg hc]
      rw [e] at h
      exact h.elim
  · obtain ⟨J, args, fp, wf, h⟩ := h
    have hl := wf.len
    rw [List.length_map] at hl
    by_cases hc : (decide (args.length = F.np) && okArgs F.muts 0 args) = true
    · have er : runF fu Phi F args = (match exs fu Phi F.body (args ++ List.replicate (F.nn - F.np) .non) with
        | .ok (.ret s) r => .ret s (outsOf F.muts args r)
        | .ok .nx r => .ret (.sh .none) (outsOf F.muts args r)
        | .ex c fs r => .ex c fs (outsOf F.muts args r)
        | .bad => .bad) := by unfold runF; rw [if_pos hc] <;> rfl
      rw [er] at h
      simp only [Bool.and_eq_true, decide_eq_true_eq] at hc
      obtain ⟨hc1, hc2⟩ := hc
      let X : Cx := cxOf (L2.CX pr w) pr w K mg base N qual (defScope st) f cdv A outer s H E
      have g : Good P N k Phi X (defScope st) (fun _ => true) := ⟨rfl, S.nd, rfl, S.kind, rfl, (fun _ => rfl), RoomW.all hr, gd, blt, fns, fvs, fnn, csts, ers, obs⟩
      have tk : Takes X (fun cls d _ H => E cls d H) := takes_of rfl rfl rfl rfl
      have hp : PassesOwn (model X.prog X.w) X.A X.env X.xe := passes_of rfl
      refine ⟨_, soundSs (fu := fu) F.body g ⟨rfl, rfl, rfl⟩ tk hp hok, ?_⟩
      have hrep : F.nn - F.np = N.length - vs.length := by rw [hnn, hl, hc1]
      refine ⟨J, args ++ List.replicate (F.nn - F.np) .non, fp, by rw [hrep]; exact wf.pad _, ?_⟩
      cases e : exs fu Phi F.body (args ++ List.replicate (F.nn - F.np) .non) with
      | bad => rw [e] at h; exact h
      | ex c fs r' =>
        rw [e] at h
        intro sg' H' J' fp' cls d w' ag q t
        obtain ⟨fpO, wO, oO⟩ := outs_ok wf hc2 w' ag hm t
        exact h H' J' fpO cls d wO q (t.weak oO)
      | ok fl r' =>
        rw [e] at h
        cases fl with
        | nx =>
          intro sg' H' J' fp' w' ag t
          obtain ⟨fpO, wO, oO⟩ := outs_ok wf hc2 w' ag hm t
          exact h .non H' J' fpO [] wO ⟨rfl, .non⟩ (fun b z => nomatch z) (nil_step (t.weak oO))
        | ret z =>
          intro v sg' H' J' fp' g' w' ag q n t
          obtain ⟨fpO, wO, oO⟩ := outs_ok wf hc2 w' ag hm t
          exact h v H' J' fpO g' wO q (fun b y => ⟨(n b y).1, fun z => (n b y).2 (oO b z)⟩) (t.weak fun b y => y.imp (oO b) id)
    · have e : runF fu Phi F args = .bad := by unfold runF; rw [if_neg hc]
      rw [e] at h
      exact h.elim

def FnAt0 (P : Prg) (K : PySem.W.Frag) (F : Fn) (f : Addr) : Prop :=
  ∃ (x qual : Str) (st : Stmt) (fd : FuncData) (ps N : List Str), Fun K x qual st f fd ∧ FnScope N ps (defScope st) ∧ okSs P.tx N (defScope st) (fun _ => true) F.body (defBody st) = true ∧ F.np = ps.length ∧ F.nn = N.length ∧
    (F.muts.all fun i => decide (i ∉ asgds F.body)) = true ∧ Binds K fd ps []
def FnAt (P : Prg) (K : PySem.W.Frag) (mg : Str → Option Value) (F : Fn) (x : Str) : Prop := ∃ f, FnAt0 P K F f ∧ mg x = some (.ref f) ∧ PySem.W.keepIn K (.ref f) = true
structure ClsAt (P : Prg) (K : PySem.W.Frag) (mg : Str → Option Value) (T : List Fn) : Prop where
  mks : ∀ x c f, P.tx.mks.lookup x = some (c, f) → ∃ F a, T[f]? = some F ∧ FnAt0 P K F a ∧ mg x = some (.ref (Errs.oc c)) ∧ Mk K (Errs.oc c) a
  mts : ∀ c m f, (c, m, f) ∈ P.tx.mts → ∃ F a, T[f]? = some F ∧ FnAt0 P K F a ∧ Cls K (Errs.oc c) ∧ Meth K (Errs.oc c) m a
  fls : ∀ c f, (c, f) ∈ P.tx.flds → Cls K (Errs.oc c) ∧ NoAttr K (Errs.oc c) f
theorem fn_zero {F : Fn} {f : Addr} (h : FnAt0 P K F f) {T : List Fn} {i : Nat} : ∃ fd ps, FnG pr w K mg base (L2.CX pr w) (2 * 0 + 2) f fd ps (spF K (run fu T 0 i)) ∧ Binds K fd ps [] := by
  obtain ⟨x, qual, st, fd, ps, N, h1, _, _, _, _, _, h8⟩ := h
  exact ⟨fd, ps, ⟨fun vs H Q E ⟨_, _, _, _, z⟩ => z.elim, fun A outer s H args us vs Q E _ _ _ _ _ ⟨_, _, _, _, z⟩ => z.elim⟩, h8⟩
theorem fns_of {T : List Fn} {k : Nat} (tab : ∀ (i : Nat) (x : Str), P.tx.names[i]? = some x → ∃ F, T[i]? = some F ∧ FnAt P K mg F x)
    (ih : ∀ (i : Nat) (F : Fn) (f : Addr), T[i]? = some F → FnAt0 P K F f → ∃ fd ps, FnG pr w K mg base (L2.CX pr w) (2 * k + 2) f fd ps (spF K (run fu T k i)) ∧ Binds K fd ps []) :
    ∀ f x, P.tx.names[f]? = some x → ∃ a fd ps, FnG pr w K mg base (L2.CX pr w) (2 * k + 2) a fd ps (spF K (run fu T k f)) ∧ mg x = some (.ref a) ∧ PySem.W.keepIn K (.ref a) = true ∧ Binds K fd ps [] := fun f x q => by
  obtain ⟨F', e1, a, e2, e3, e4⟩ := tab f x q
  obtain ⟨fd, ps, g1, g2⟩ := ih f F' a e1 e2
  exact ⟨a, fd, ps, g1, e3, e4, g2⟩
theorem obs_of {T : List Fn} {k : Nat} (cls : ClsAt P K mg T)
    (ih : ∀ (i : Nat) (F : Fn) (f : Addr), T[i]? = some F → FnAt0 P K F f → ∃ fd ps, FnG pr w K mg base (L2.CX pr w) (2 * k + 2) f fd ps (spF K (run fu T k i)) ∧ Binds K fd ps []) : ObsOk pr w K mg base k (run fu T k) P.tx := by
  refine ⟨fun x c f q => ?_, fun c m f q => ?_, cls.fls⟩
  · obtain ⟨F', a, e1, e2, e3, e4⟩ := cls.mks x c f q
    obtain ⟨fd, ps, g1, g2⟩ := ih f F' a e1 e2
    exact ⟨a, fd, ps, g1, e3, e4, g2⟩
  · obtain ⟨F', a, e1, e2, e3, e4⟩ := cls.mts c m f q
    obtain ⟨fd, ps, g1, g2⟩ := ih f F' a e1 e2
    exact ⟨a, fd, ps, g1, e3, e4, g2⟩
theorem table_sound {T : List Fn} (blt : ∀ x ∈ bnames, mg x = none)
    (fvs : ∀ f x, P.tx.names[f]? = some x → f < Errs.fn ∧ mg x = some (.ref (Errs.fa f))) (fnn : ∀ f, f < Errs.fn → ∃ x, P.tx.names[f]? = some x)
    (csts : ∀ x d, P.tx.consts.lookup x = some d → ∃ u, mg x = some u ∧ match d with | .int j => ∃ t, u = .int j t | .str j => ∃ t, u = .str j t | _ => True)
    (ers : ErrsOk K mg P.tx) (cls : ClsAt P K mg T) (tab : ∀ (i : Nat) (x : Str), P.tx.names[i]? = some x → ∃ F, T[i]? = some F ∧ FnAt P K mg F x) :
    ∀ (k : Nat), (∀ (i : Nat) (F : Fn) (f : Addr), T[i]? = some F → FnAt0 P K F f → ∃ fd ps, FnG pr w K mg base (L2.CX pr w) (2 * k + 2) f fd ps (spF K (run fu T k i)) ∧ Binds K fd ps [])
  | 0, i, F, f, _, h => fn_zero h
  | k + 1, i, F, f, hF, h => by
    have ih := table_sound (T := T) blt fvs fnn csts ers cls tab k
    obtain ⟨x, qual, st, fd, ps, N, h1, h2, h3, h4, h5, h6, h8⟩ := h
    have fns := fns_of tab ih
    have obs := obs_of cls ih
    have := fn_sound (fu := fu) (pr := pr) (w := w) (base := base) (Phi := run fu T k) h1 h2 h3 h4 h5 (fun i q => of_decide_eq_true (List.all_eq_true.mp h6 i q)) blt fns fvs fnn csts ers obs
    refine ⟨fd, ps, ?_, h8⟩
    have e : run fu T (k + 1) i = runF fu (run fu T k) F := by
      funext args
      simp only [run, hF]
    rw [e]
    exact this
end
theorem law_start {P : Prg} {K : PySem.W.Frag} {Ph : Ro → FR} {H : Hp} {a : Addr} {ns : List Int} (hS : SqL K H a (ns.map V.int)) (h : ∃ outs, Ph [.sh (scrD ns)] = .ret (.sh (.bool true)) outs) :
    spF K Ph [.ref a] H (fun v _ => v = .bl true) fun _ _ _ => False := by
  obtain ⟨outs, e⟩ := h
  refine ⟨H, [.sh (scrD ns)], fpC [] fun _ => [], (Wf.nil (Same.refl H)).cons ⟨rfl, .scr hS⟩ (fun b q => nomatch q), ?_⟩
  rw [e]
  intro v H' J' fp' g _ q _ _
  obtain ⟨_, q⟩ := q
  cases q
  rfl
theorem cx_none {pr : Program} {w : World} {H : Hp} {s : Shared} {e : Value} {s' : Shared} (h : L2.CX pr w [] H s (fun _ _ _ => False) e s') : False := by
  obtain ⟨_, _, _, _, _, _, _, _, _, _, _, _, z⟩ := h
  exact z
end Ev
end

set_option maxRecDepth 100000
local macro_rules | `(tactic| simp_arith) => `(tactic| simp -implicitDefEqProofs (disch := first | assumption | omega | (simp only [List.length_map, List.length_append, List.length_cons, List.length_nil, List.length_take, List.length_drop, List.length_reverse]; omega)) only [↓Ev.wp_sub, ↓Ev.wp_ddn, ↓Ev.wp_get0, ↓Ev.wp_fnc, ↓Ev.wp_callV, ↓Ev.wp_nn, ↓Ev.wp_tlFst, ↓Ev.wp_tlPop0, ↓Ev.wp_callT, ↓Ev.wp_callB, ↓Ev.wp_evB_nil, ↓Ev.wp_evB_ref, ↓Ev.wp_evB_snd, ↓Ev.wp_evB_cst, ↓Ev.wp_evB_var, ↓Ev.wp_evB_fnc, ↓Ev.wp_evB_op, ↓Ev.wp_evA_fnc, ↓Ev.wp_rds_tlFst, ↓Ev.wp_rds_callB, ↓Ev.wp_rds_callV, ↓Ev.wp_evI_get0, ↓Ev.wp_rds_get0, ↓Ev.wp_ret_nn, ↓Ev.wp_ret_callV, ↓Ev.wp_tlApp, ↓Ev.wp_tlRev, ↓Ev.wp_tlClr, ↓Ev.wp_evI_its, ↓Ev.wp_pop0, ↓Ev.wp_rds_pop0, ↓Ev.wp_evA_pop0, ↓Ev.wp_ret_pop0, ↓Ev.wp_rem, ↓Ev.wp_rev, ↓Ev.wp_setdef, ↓Ev.wp_par, ↓Ev.wp_rds_fld, ↓Ev.wp_evA_fld, ↓Ev.wp_evI_fld, ↓Ev.wp_rds_opf, ↓Ev.wp_evA_opf, ↓Ev.wp_evI_opf, ↓Ev.wp_rds_mcall, ↓Ev.wp_evA_mcall, ↓Ev.wp_evI_mcall, ↓Ev.wp_rds_mk, ↓Ev.wp_evA_mk, ↓Ev.wp_evI_mk, ↓Ev.wp_mcall, ↓Ev.wp_mcallO, ↓Ev.wp_mk, ↓Ev.wp_fld, ↓Ev.wp_opf, ↓Ev.wp_ret_mcall, ↓Ev.wp_ret_mk, ↓Ev.wp_ret_fld, ↓Ev.wp_ret_opf, ↓Ev.wp_fput, ↓Ev.wp_ll0, ↓Ev.wp_appL, ↓Ev.wp_dsp, ↓Ev.wp_var, ↓Ev.wp_shr, ↓Ev.wp_cst, ↓Ev.wp_glob, ↓Ev.wp_dnew, ↓Ev.wp_sl2, ↓Ev.wp_xnew, ↓Ev.wp_op, ↓Ev.wp_xop, ↓Ev.wp_meth, ↓Ev.wp_tup, ↓Ev.wp_lst, ↓Ev.wp_not, ↓Ev.wp_and, ↓Ev.wp_or, ↓Ev.wp_chain, ↓Ev.wp_chain3, ↓Ev.wp_lc, ↓Ev.wp_call, ↓Ev.wp_callF, ↓Ev.wp_pop, ↓Ev.wp_evs_nil, ↓Ev.wp_evs_cons, ↓Ev.wp_rds_nil, ↓Ev.wp_rds_var, ↓Ev.wp_rds_cst, ↓Ev.wp_rds_glob, ↓Ev.wp_rds_op, ↓Ev.wp_rds_xop, ↓Ev.wp_rds_meth, ↓Ev.wp_rds_tup, ↓Ev.wp_rds_lst, ↓Ev.wp_rds_not, ↓Ev.wp_rds_and, ↓Ev.wp_rds_or, ↓Ev.wp_rds_chain, ↓Ev.wp_rds_chain3, ↓Ev.wp_rds_lc, ↓Ev.wp_rds_call, ↓Ev.wp_rds_pop, ↓Ev.wp_rds_shr, ↓Ev.wp_rds_dnew, ↓Ev.wp_rds_sl2, ↓Ev.wp_rds_xnew, ↓Ev.wp_evA_nil, ↓Ev.wp_evA_ref, ↓Ev.wp_evA_own, ↓Ev.wp_evA_cst, ↓Ev.wp_evA_glob, ↓Ev.wp_evA_var, ↓Ev.wp_evA_op, ↓Ev.wp_evA_xop, ↓Ev.wp_evA_meth, ↓Ev.wp_evA_tup, ↓Ev.wp_evA_lst, ↓Ev.wp_evA_lc, ↓Ev.wp_evA_call, ↓Ev.wp_evA_not, ↓Ev.wp_evA_and, ↓Ev.wp_evA_or, ↓Ev.wp_evA_dnew, ↓Ev.wp_evA_sl2, ↓Ev.wp_evA_pop, ↓Ev.wp_evC_nil, ↓Ev.wp_evC_one, ↓Ev.wp_evI_rng1, ↓Ev.wp_evI_rng2, ↓Ev.wp_evI_rng3, ↓Ev.wp_rng3I, ↓Ev.wp_evI_prs, ↓Ev.wp_evI_var, ↓Ev.wp_evI_shr, ↓Ev.wp_evI_op, ↓Ev.wp_evI_xop, ↓Ev.wp_evI_lst, ↓Ev.wp_evI_tup, ↓Ev.wp_evI_call, ↓Ev.wp_evI_lc, ↓Ev.wp_evI_sl2, ↓Ev.wp_exs_nil, ↓Ev.wp_exs_cons, ↓Ev.kSeq_nx, ↓Ev.kSeq_ret, ↓Ev.wp_set, ↓Ev.wp_setLc, ↓Ev.wp_setT, ↓Ev.wp_move, ↓Ev.wp_aug, ↓Ev.wp_ite, ↓Ev.wp_for, ↓Ev.wp_while, ↓Ev.wp_retV, ↓Ev.wp_ret_cst, ↓Ev.wp_ret_op, ↓Ev.wp_ret_xop, ↓Ev.wp_ret_meth, ↓Ev.wp_ret_tup, ↓Ev.wp_ret_lst, ↓Ev.wp_ret_not, ↓Ev.wp_ret_and, ↓Ev.wp_ret_or, ↓Ev.wp_ret_chain, ↓Ev.wp_ret_chain3, ↓Ev.wp_ret_lc, ↓Ev.wp_ret_call, ↓Ev.wp_ret_pop, ↓Ev.wp_ret_dnew, ↓Ev.wp_ret_sl2, ↓Ev.wp_expr, ↓Ev.wp_append, ↓Ev.wp_extend, ↓Ev.wp_setItem, ↓Ev.wp_pass, ↓Ev.wp_raise0, ↓Ev.wp_raise1, ↓Ev.wp_try, ↓Ev.wp_forStep, ↓Ev.wp_lcStep, Ev.ddAt, Ev.dcAt, Ev.tlAt, Ev.fnAt, Ev.nnAt, Ev.kSub, Ev.kSubB, Ev.kGet0, Ev.kBackT, Ev.kCallT, Ev.kBackB, Ev.kCallB, Ev.kBoC, Ev.kBo, Ev.kTlA, Ev.popT, Ev.vwB, Ev.isTl, Ev.isTn, Ev.fnOf_fn, Ev.pOr0, Ev.llAt, Ev.kApL1, Ev.kApL2, Ev.kItsI, Ev.itsI_D, Ev.seqI_D, Ev.seqI_S, Ev.kPop0, Ev.kRem, Ev.kRev, Ev.kSdf, Ev.kSdf2, Ev.isDs, Ev.kPar, Ev.kMcl, Ev.kMcT, Ev.kMcO, Ev.kMkB, Ev.eMk, Ev.kMk, Ev.shF, Ev.fldAt, Ev.fldD2, Ev.kFput, Ev.kFapp, Ev.kForF, Ev.isObj, Ev.Slot.fd, Ev.Fd.data, Ev.isRob, Ev.flRob, Ev.kDsp, Ev.kDsp1, Ev.kForD2, Ev.wp_ok, Ev.wp_ex, Ev.wp_bad, Ev.wpo_some, Ev.wpo_none, Ev.wpp_some, Ev.wpp_none, Ev.kTr, Ev.kNot, Ev.kAnd, Ev.kOr, Ev.kPl, Ev.kDb, Ev.kTm, Ev.kDs, Ev.kDA, Ev.kTA, Ev.kCons, Ev.kEs, Ev.kOp, Ev.kTup, Ev.kLst, Ev.kSh, Ev.kBack, Ev.kBackE, Ev.kBackF, Ev.kCallF, Ev.okF, Ev.noIL, Ev.noILs, Ev.kCall, Ev.kChain2, Ev.kChainB, Ev.kChain1, Ev.kChain0, Ev.kC3c, Ev.kC3d, Ev.kC3e, Ev.kC3f, Ev.kC3g, Ev.kLc2, Ev.kLc, Ev.kSeqI, Ev.kPrs, Ev.kRng1, Ev.kRng2b, Ev.kRng2, Ev.kRng3, Ev.kRng3b, Ev.kRng3c, Ev.kSl1, Ev.kSl2, Ev.kSl3, Ev.kXn, Ev.kPop, Ev.kSet, Ev.kAsg, Ev.kAug, Ev.kIte, Ev.kFor2, Ev.kFor, Ev.kRet, Ev.kDrop, Ev.kApp, Ev.kExt, Ev.kSetL, Ev.kSetD, Ev.kSetI, Ev.kRaise, Ev.eTry, Ev.kMove, Ev.kRetV, Ev.intAtR, Ev.isLs, Ev.kLe2, Ev.kLe, Ev.kFn, Ev.eFn, Ev.kMid_nx, Ev.kMid_ret, Ev.takeS, Ev.dropS, Ev.getV, Ev.has, Ev.toSh_sh, Ev.toSh_lst, Ev.toSh_dct, Ev.rdO, Ev.rdOs, Ev.lk1, Ev.lks, Ev.mv1, Ev.mvs, Ev.putBack, Ev.unlks, Ev.asgN, Ev.asg_name, Ev.asg_tupU, Ev.asgs_nil, Ev.asgs_cons, Ev.wipeR, Ev.backR, Ev.seqI_L, Ev.seqI_U, Ev.mTy, Ev.outL, Ev.prim, Ev.pAddI, Ev.pAddL, Ev.pAddT, Ev.rg1T, Ev.rg2T, Ev.rg3T, Ev.smallT, Ev.ltT, Ev.toNat_nat, Ev.pSubI, Ev.pFdivI, Ev.pModI, Ev.pMulI, Ev.pPowI, Ev.pNeg, Ev.pEqI, Ev.pNeI, Ev.pLtI, Ev.pLeI, Ev.pGtI, Ev.pGeI, Ev.pLenLL, Ev.pLenU, Ev.pLenS, Ev.pLenD, Ev.pItemL, Ev.pItemU, Ev.pItemS, Ev.pMaxI, Ev.pMinI, Ev.pListL, Ev.pListU, Ev.pTupL, Ev.pTupU, Ev.pIntI, Ev.pIntB, Ev.pIsiN, Ev.pIsiB, Ev.pIsiI, Ev.pIsiS, Ev.pIsiL, Ev.pIsiU, Ev.pIsiD, Ev.tyD, Ev.pIs, Ev.pIsnot, Ev.isNon, Ev.pRevL, Ev.pRevU, Ev.pSlUlo, Ev.pSlUhi, Ev.pSlLlo, Ev.pSlLhi, Ev.pSlUlo1, Ev.pSlUhi1, Ev.pSlLlo1, Ev.pSlLhi1, Ev.cutP_L, Ev.cutP_U, Ev.pStrI, Ev.ixN_0, Ev.ixN_1, Ev.ixN_m1, Ev.pFld, Ev.fldD, Ev.pAll, Ev.pAny, Ev.boolsD, Ev.pGet, Ev.isImm, List.getElem?_cons_zero, List.getElem?_cons_succ, List.set_cons_zero, List.set_cons_succ, List.length_cons, List.length_nil, List.length_map, List.map_cons, List.map_nil, List.nil_append, List.cons_append, List.append_nil, List.headD_cons, List.tail_cons, List.replicate_succ, List.replicate_zero, Int.cast_ofNat_Int, Int.natCast_one, Int.natCast_zero, Int.reduceEq, Int.reduceLT, Int.reduceLE, Int.reduceNe, Nat.reduceSub, Nat.reduceAdd, Nat.reduceLT, Nat.reduceLeDiff, true_implies, false_implies, forall_const, not_true_eq_false, not_false_eq_true, decide_eq_false_iff_not, eq_self, Bool.not_eq_true, Bool.not_eq_false, Bool.not_eq_true', Bool.not_eq_false', decide_true, decide_false, if_true, if_false, Bool.false_eq_true, Bool.true_eq_false, Bool.not_true, Bool.not_false, Bool.and_true, Bool.true_and, Bool.false_and, Bool.and_false, Bool.or_true, Bool.true_or, Bool.false_or, Bool.or_false, true_and, and_true, false_and, and_false, ite_true, ite_false, reduceIte, Option.map_some, Option.map_none, decide_eq_true_eq, List.mem_cons, List.not_mem_nil, or_false, or_true, true_or, false_or, Nat.zero_lt_succ, Nat.lt_irrefl, Ev.atI_0, Ev.atI_s, Ev.atI_m1, Option.getD_some, Option.getD_none, Option.isSome_some, Option.isSome_none, Option.isNone_none, Option.isNone_some, String.reduceEq])
local macro_rules | `(tactic| simp_arith [$ls,*]) => `(tactic| simp -implicitDefEqProofs (disch := first | assumption | omega | (simp only [List.length_map, List.length_append, List.length_cons, List.length_nil, List.length_take, List.length_drop, List.length_reverse]; omega)) only [↓Ev.wp_sub, ↓Ev.wp_ddn, ↓Ev.wp_get0, ↓Ev.wp_fnc, ↓Ev.wp_callV, ↓Ev.wp_nn, ↓Ev.wp_tlFst, ↓Ev.wp_tlPop0, ↓Ev.wp_callT, ↓Ev.wp_callB, ↓Ev.wp_evB_nil, ↓Ev.wp_evB_ref, ↓Ev.wp_evB_snd, ↓Ev.wp_evB_cst, ↓Ev.wp_evB_var, ↓Ev.wp_evB_fnc, ↓Ev.wp_evB_op, ↓Ev.wp_evA_fnc, ↓Ev.wp_rds_tlFst, ↓Ev.wp_rds_callB, ↓Ev.wp_rds_callV, ↓Ev.wp_evI_get0, ↓Ev.wp_rds_get0, ↓Ev.wp_ret_nn, ↓Ev.wp_ret_callV, ↓Ev.wp_tlApp, ↓Ev.wp_tlRev, ↓Ev.wp_tlClr, ↓Ev.wp_evI_its, ↓Ev.wp_pop0, ↓Ev.wp_rds_pop0, ↓Ev.wp_evA_pop0, ↓Ev.wp_ret_pop0, ↓Ev.wp_rem, ↓Ev.wp_rev, ↓Ev.wp_setdef, ↓Ev.wp_par, ↓Ev.wp_rds_fld, ↓Ev.wp_evA_fld, ↓Ev.wp_evI_fld, ↓Ev.wp_rds_opf, ↓Ev.wp_evA_opf, ↓Ev.wp_evI_opf, ↓Ev.wp_rds_mcall, ↓Ev.wp_evA_mcall, ↓Ev.wp_evI_mcall, ↓Ev.wp_rds_mk, ↓Ev.wp_evA_mk, ↓Ev.wp_evI_mk, ↓Ev.wp_mcall, ↓Ev.wp_mcallO, ↓Ev.wp_mk, ↓Ev.wp_fld, ↓Ev.wp_opf, ↓Ev.wp_ret_mcall, ↓Ev.wp_ret_mk, ↓Ev.wp_ret_fld, ↓Ev.wp_ret_opf, ↓Ev.wp_fput, ↓Ev.wp_ll0, ↓Ev.wp_appL, ↓Ev.wp_dsp, ↓Ev.wp_var, ↓Ev.wp_shr, ↓Ev.wp_cst, ↓Ev.wp_glob, ↓Ev.wp_dnew, ↓Ev.wp_sl2, ↓Ev.wp_xnew, ↓Ev.wp_op, ↓Ev.wp_xop, ↓Ev.wp_meth, ↓Ev.wp_tup, ↓Ev.wp_lst, ↓Ev.wp_not, ↓Ev.wp_and, ↓Ev.wp_or, ↓Ev.wp_chain, ↓Ev.wp_chain3, ↓Ev.wp_lc, ↓Ev.wp_call, ↓Ev.wp_callF, ↓Ev.wp_pop, ↓Ev.wp_evs_nil, ↓Ev.wp_evs_cons, ↓Ev.wp_rds_nil, ↓Ev.wp_rds_var, ↓Ev.wp_rds_cst, ↓Ev.wp_rds_glob, ↓Ev.wp_rds_op, ↓Ev.wp_rds_xop, ↓Ev.wp_rds_meth, ↓Ev.wp_rds_tup, ↓Ev.wp_rds_lst, ↓Ev.wp_rds_not, ↓Ev.wp_rds_and, ↓Ev.wp_rds_or, ↓Ev.wp_rds_chain, ↓Ev.wp_rds_chain3, ↓Ev.wp_rds_lc, ↓Ev.wp_rds_call, ↓Ev.wp_rds_pop, ↓Ev.wp_rds_shr, ↓Ev.wp_rds_dnew, ↓Ev.wp_rds_sl2, ↓Ev.wp_rds_xnew, ↓Ev.wp_evA_nil, ↓Ev.wp_evA_ref, ↓Ev.wp_evA_own, ↓Ev.wp_evA_cst, ↓Ev.wp_evA_glob, ↓Ev.wp_evA_var, ↓Ev.wp_evA_op, ↓Ev.wp_evA_xop, ↓Ev.wp_evA_meth, ↓Ev.wp_evA_tup, ↓Ev.wp_evA_lst, ↓Ev.wp_evA_lc, ↓Ev.wp_evA_call, ↓Ev.wp_evA_not, ↓Ev.wp_evA_and, ↓Ev.wp_evA_or, ↓Ev.wp_evA_dnew, ↓Ev.wp_evA_sl2, ↓Ev.wp_evA_pop, ↓Ev.wp_evC_nil, ↓Ev.wp_evC_one, ↓Ev.wp_evI_rng1, ↓Ev.wp_evI_rng2, ↓Ev.wp_evI_rng3, ↓Ev.wp_rng3I, ↓Ev.wp_evI_prs, ↓Ev.wp_evI_var, ↓Ev.wp_evI_shr, ↓Ev.wp_evI_op, ↓Ev.wp_evI_xop, ↓Ev.wp_evI_lst, ↓Ev.wp_evI_tup, ↓Ev.wp_evI_call, ↓Ev.wp_evI_lc, ↓Ev.wp_evI_sl2, ↓Ev.wp_exs_nil, ↓Ev.wp_exs_cons, ↓Ev.kSeq_nx, ↓Ev.kSeq_ret, ↓Ev.wp_set, ↓Ev.wp_setLc, ↓Ev.wp_setT, ↓Ev.wp_move, ↓Ev.wp_aug, ↓Ev.wp_ite, ↓Ev.wp_for, ↓Ev.wp_while, ↓Ev.wp_retV, ↓Ev.wp_ret_cst, ↓Ev.wp_ret_op, ↓Ev.wp_ret_xop, ↓Ev.wp_ret_meth, ↓Ev.wp_ret_tup, ↓Ev.wp_ret_lst, ↓Ev.wp_ret_not, ↓Ev.wp_ret_and, ↓Ev.wp_ret_or, ↓Ev.wp_ret_chain, ↓Ev.wp_ret_chain3, ↓Ev.wp_ret_lc, ↓Ev.wp_ret_call, ↓Ev.wp_ret_pop, ↓Ev.wp_ret_dnew, ↓Ev.wp_ret_sl2, ↓Ev.wp_expr, ↓Ev.wp_append, ↓Ev.wp_extend, ↓Ev.wp_setItem, ↓Ev.wp_pass, ↓Ev.wp_raise0, ↓Ev.wp_raise1, ↓Ev.wp_try, ↓Ev.wp_forStep, ↓Ev.wp_lcStep, Ev.ddAt, Ev.dcAt, Ev.tlAt, Ev.fnAt, Ev.nnAt, Ev.kSub, Ev.kSubB, Ev.kGet0, Ev.kBackT, Ev.kCallT, Ev.kBackB, Ev.kCallB, Ev.kBoC, Ev.kBo, Ev.kTlA, Ev.popT, Ev.vwB, Ev.isTl, Ev.isTn, Ev.fnOf_fn, Ev.pOr0, Ev.llAt, Ev.kApL1, Ev.kApL2, Ev.kItsI, Ev.itsI_D, Ev.seqI_D, Ev.seqI_S, Ev.kPop0, Ev.kRem, Ev.kRev, Ev.kSdf, Ev.kSdf2, Ev.isDs, Ev.kPar, Ev.kMcl, Ev.kMcT, Ev.kMcO, Ev.kMkB, Ev.eMk, Ev.kMk, Ev.shF, Ev.fldAt, Ev.fldD2, Ev.kFput, Ev.kFapp, Ev.kForF, Ev.isObj, Ev.Slot.fd, Ev.Fd.data, Ev.isRob, Ev.flRob, Ev.kDsp, Ev.kDsp1, Ev.kForD2, Ev.wp_ok, Ev.wp_ex, Ev.wp_bad, Ev.wpo_some, Ev.wpo_none, Ev.wpp_some, Ev.wpp_none, Ev.kTr, Ev.kNot, Ev.kAnd, Ev.kOr, Ev.kPl, Ev.kDb, Ev.kTm, Ev.kDs, Ev.kDA, Ev.kTA, Ev.kCons, Ev.kEs, Ev.kOp, Ev.kTup, Ev.kLst, Ev.kSh, Ev.kBack, Ev.kBackE, Ev.kBackF, Ev.kCallF, Ev.okF, Ev.noIL, Ev.noILs, Ev.kCall, Ev.kChain2, Ev.kChainB, Ev.kChain1, Ev.kChain0, Ev.kC3c, Ev.kC3d, Ev.kC3e, Ev.kC3f, Ev.kC3g, Ev.kLc2, Ev.kLc, Ev.kSeqI, Ev.kPrs, Ev.kRng1, Ev.kRng2b, Ev.kRng2, Ev.kRng3, Ev.kRng3b, Ev.kRng3c, Ev.kSl1, Ev.kSl2, Ev.kSl3, Ev.kXn, Ev.kPop, Ev.kSet, Ev.kAsg, Ev.kAug, Ev.kIte, Ev.kFor2, Ev.kFor, Ev.kRet, Ev.kDrop, Ev.kApp, Ev.kExt, Ev.kSetL, Ev.kSetD, Ev.kSetI, Ev.kRaise, Ev.eTry, Ev.kMove, Ev.kRetV, Ev.intAtR, Ev.isLs, Ev.kLe2, Ev.kLe, Ev.kFn, Ev.eFn, Ev.kMid_nx, Ev.kMid_ret, Ev.takeS, Ev.dropS, Ev.getV, Ev.has, Ev.toSh_sh, Ev.toSh_lst, Ev.toSh_dct, Ev.rdO, Ev.rdOs, Ev.lk1, Ev.lks, Ev.mv1, Ev.mvs, Ev.putBack, Ev.unlks, Ev.asgN, Ev.asg_name, Ev.asg_tupU, Ev.asgs_nil, Ev.asgs_cons, Ev.wipeR, Ev.backR, Ev.seqI_L, Ev.seqI_U, Ev.mTy, Ev.outL, Ev.prim, Ev.pAddI, Ev.pAddL, Ev.pAddT, Ev.rg1T, Ev.rg2T, Ev.rg3T, Ev.smallT, Ev.ltT, Ev.toNat_nat, Ev.pSubI, Ev.pFdivI, Ev.pModI, Ev.pMulI, Ev.pPowI, Ev.pNeg, Ev.pEqI, Ev.pNeI, Ev.pLtI, Ev.pLeI, Ev.pGtI, Ev.pGeI, Ev.pLenLL, Ev.pLenU, Ev.pLenS, Ev.pLenD, Ev.pItemL, Ev.pItemU, Ev.pItemS, Ev.pMaxI, Ev.pMinI, Ev.pListL, Ev.pListU, Ev.pTupL, Ev.pTupU, Ev.pIntI, Ev.pIntB, Ev.pIsiN, Ev.pIsiB, Ev.pIsiI, Ev.pIsiS, Ev.pIsiL, Ev.pIsiU, Ev.pIsiD, Ev.tyD, Ev.pIs, Ev.pIsnot, Ev.isNon, Ev.pRevL, Ev.pRevU, Ev.pSlUlo, Ev.pSlUhi, Ev.pSlLlo, Ev.pSlLhi, Ev.pSlUlo1, Ev.pSlUhi1, Ev.pSlLlo1, Ev.pSlLhi1, Ev.cutP_L, Ev.cutP_U, Ev.pStrI, Ev.ixN_0, Ev.ixN_1, Ev.ixN_m1, Ev.pFld, Ev.fldD, Ev.pAll, Ev.pAny, Ev.boolsD, Ev.pGet, Ev.isImm, List.getElem?_cons_zero, List.getElem?_cons_succ, List.set_cons_zero, List.set_cons_succ, List.length_cons, List.length_nil, List.length_map, List.map_cons, List.map_nil, List.nil_append, List.cons_append, List.append_nil, List.headD_cons, List.tail_cons, List.replicate_succ, List.replicate_zero, Int.cast_ofNat_Int, Int.natCast_one, Int.natCast_zero, Int.reduceEq, Int.reduceLT, Int.reduceLE, Int.reduceNe, Nat.reduceSub, Nat.reduceAdd, Nat.reduceLT, Nat.reduceLeDiff, true_implies, false_implies, forall_const, not_true_eq_false, not_false_eq_true, decide_eq_false_iff_not, eq_self, Bool.not_eq_true, Bool.not_eq_false, Bool.not_eq_true', Bool.not_eq_false', decide_true, decide_false, if_true, if_false, Bool.false_eq_true, Bool.true_eq_false, Bool.not_true, Bool.not_false, Bool.and_true, Bool.true_and, Bool.false_and, Bool.and_false, Bool.or_true, Bool.true_or, Bool.false_or, Bool.or_false, true_and, and_true, false_and, and_false, ite_true, ite_false, reduceIte, Option.map_some, Option.map_none, decide_eq_true_eq, List.mem_cons, List.not_mem_nil, or_false, or_true, true_or, false_or, Nat.zero_lt_succ, Nat.lt_irrefl, Ev.atI_0, Ev.atI_s, Ev.atI_m1, Option.getD_some, Option.getD_none, Option.isSome_some, Option.isSome_none, Option.isNone_none, Option.isNone_some, String.reduceEq, $ls,*])

section
set_option maxHeartbeats 8000000
set_option Elab.async false
set_option linter.all false
set_option maxRecDepth 100000
namespace Lib
open PySem Ev

def b_law_take : CSs := ((.cons (.ite (.op .gt (.cons (.op .item (.cons (.var 0) (.cons (.cst (.int 0)) .nil))) (.cons (.cst (.int 0)) .nil))) (.cons (.set (.name 2) (.op .mod (.cons (.op .item (.cons (.var 0) (.cons (.cst (.int 0)) .nil))) (.cons (.var 1) .nil))))
    (.cons (.setItem 0 (.cst (.int 0)) (.op .fdiv (.cons (.op .item (.cons (.var 0) (.cons (.cst (.int 0)) .nil))) (.cons (.var 1) .nil))))
    (.cons (.ret (.var 2))
    .nil))) .nil)
    (.cons (.setItem 0 (.cst (.int 1)) (.op .mod (.cons (.op .add (.cons (.op .mul (.cons (.op .item (.cons (.var 0) (.cons (.cst (.int 1)) .nil))) (.cons (.cst (.int 39373)) .nil))) (.cons (.cst (.int 11)) .nil))) (.cons (.cst (.int 2147483647)) .nil))))
    (.cons (.ret (.op .mod (.cons (.op .fdiv (.cons (.op .mod (.cons (.op .mul (.cons (.op .item (.cons (.var 0) (.cons (.cst (.int 1)) .nil))) (.cons (.op .item (.cons (.var 0) (.cons (.cst (.int 1)) .nil))) .nil))) (.cons (.cst (.int 2147483629)) .nil))) (.cons (.cst (.int 64)) .nil))) (.cons (.var 1) .nil))))
    .nil))))
def f_law_take : Fn := ⟨2, 3, [0, 1], b_law_take⟩
def b_law_pool : CSs := ((.cons (.set (.name 2) (.op .len (.cons (.var 0) .nil)))
    (.cons (.ite (.op .lt (.cons (.var 1) (.cons (.op .len (.cons (.var 0) .nil)) .nil))) (.cons (.set (.name 2) (.op .item (.cons (.var 0) (.cons (.var 1) .nil))))
    .nil) .nil)
    (.cons (.set (.name 3) (.op .mod (.cons (.op .mul (.cons (.op .add (.cons (.op .add (.cons (.op .mod (.cons (.var 2) (.cons (.cst (.int 1000000007)) .nil))) (.cons (.op .mul (.cons (.op .mul (.cons (.cst (.int 7368787)) (.cons (.var 1) .nil))) (.cons (.var 1) .nil))) .nil))) (.cons (.cst (.int 5)) .nil))) (.cons (.cst (.int 48271)) .nil))) (.cons (.cst (.int 2147483647)) .nil))))
    (.cons (.ite (.op .lt (.cons (.var 2) (.cons (.op .pow (.cons (.cst (.int 10)) (.cons (.cst (.int 18)) .nil))) .nil))) (.cons (.set (.name 2) (.cst (.int 0)))
    .nil) .nil)
    (.cons (.ret (.lst (.cons (.var 2) (.cons (.var 3) .nil))))
    .nil))))))
def f_law_pool : Fn := ⟨2, 4, [0, 1], b_law_pool⟩
theorem take_ok {fu : Nat} {Phi : Nat → Ro → FR} : TakeS (runF fu Phi f_law_take) := by
  rintro l n ⟨c, s, rfl, hc, hs, hs2⟩ h0 h1
  refine wp_fn rfl rfl ?_
  unfold b_law_take
  simp_arith
  refine ⟨fun hp => ?_, fun hp => ?_⟩
  · have e := Int.toNat_of_nonneg (mod_nn c h0)
    refine ⟨(c % n).toNat, _, by rw [e], rfl, by rw [e]; exact mod_lt c h0, _, _, rfl, Int.ediv_nonneg hc (by omega), hs, hs2⟩
  · have b1 := mod_nn (s * 39373 + 11) (n := 2147483647) (by decide)
    have b2 := mod_lt (s * 39373 + 11) (n := 2147483647) (by decide)
    generalize (s * 39373 + 11) % 2147483647 = z at b1 b2 ⊢
    generalize z * z % 2147483629 / 64 = y
    have e := Int.toNat_of_nonneg (mod_nn y h0)
    refine ⟨(y % n).toNat, _, by rw [e], rfl, by rw [e]; exact mod_lt y h0, _, _, rfl, hc, b1, b2⟩
theorem pool_ok {fu : Nat} {Phi : Nat → Ro → FR} : PoolS (runF fu Phi f_law_pool) := by
  intro ns j hj hn
  refine wp_fn rfl rfl ?_
  unfold b_law_pool
  simp_arith [List.length_map]
  have key : ∀ c : Int, (c < 10 ^ Int.toNat 18 → ∃ l, Slot.lst [PyData.int 0, PyData.int ((c % 1000000007 + 7368787 * (j : Int) * (j : Int) + 5) * 48271 % 2147483647)] = Slot.lst l ∧ PoolOk l) ∧
      (¬ c < 10 ^ Int.toNat 18 → ∃ l, Slot.lst [PyData.int c, PyData.int ((c % 1000000007 + 7368787 * (j : Int) * (j : Int) + 5) * 48271 % 2147483647)] = Slot.lst l ∧ PoolOk l) := by
    intro c
    have b1 := mod_nn ((c % 1000000007 + 7368787 * (j : Int) * (j : Int) + 5) * 48271) (n := 2147483647) (by decide)
    have b2 := mod_lt ((c % 1000000007 + 7368787 * (j : Int) * (j : Int) + 5) * 48271) (n := 2147483647) (by decide)
    generalize (c % 1000000007 + 7368787 * (j : Int) * (j : Int) + 5) * 48271 % 2147483647 = z at b1 b2 ⊢
    have e18 : (10 : Int) ^ Int.toNat 18 = 1000000000000000000 := by decide
    rw [e18]
    exact ⟨fun h => ⟨_, rfl, _, _, rfl, by omega, b1, b2⟩, fun h => ⟨_, rfl, _, _, rfl, by omega, b1, b2⟩⟩
  refine ⟨fun h => ?_, fun h => key _⟩
  have h' : j < ns.length := by omega
  simp_arith [scr_at h']
  exact key _
end Lib
end

section
set_option Elab.async false
set_option linter.all false
set_option maxRecDepth 100000
set_option maxHeartbeats 1000000
namespace Lib
open PySem Ev Mc
def b_is_whole : CSs := ((.cons (.ret (.and (.op (.isi "int") (.cons (.var 0) .nil)) (.not (.op (.isi "bool") (.cons (.var 0) .nil)))))
    .nil))
def f_is_whole : Fn := ⟨1, 1, [0], b_is_whole⟩
def b_is_within (c_is_whole : Nat) : CSs := ((.cons (.ret (.and (.call c_is_whole (.cons (.ref 0) .nil)) (.chain .le .le (.var 1) (.var 0) (.var 2))))
    .nil))
def f_is_within (c_is_whole : Nat) : Fn := ⟨3, 3, [0, 1, 2], b_is_within c_is_whole⟩
def askD : PyData → Bool
  | .none => true
  | .bool _ => true
  | .int _ => true
  | .str _ => true
  | .list _ => true
  | .tuple _ => true
  | .dict ((.bool _, .none) :: _) => true
  | _ => false
def isW : PyData → Bool
  | .int _ => true
  | _ => false
def within (d : PyData) (lo hi : Int) : Bool := match d with
  | .int n => decide (lo ≤ n) && decide (n ≤ hi)
  | _ => false
theorem whole_cases {d : PyData} (h : askD d = true) : ∃ b c : Bool, tyD d "int" = some b ∧ tyD d "bool" = some c ∧ (b && !c) = isW d := by
  unfold askD at h
  split at h <;> first | (exact ⟨_, _, rfl, rfl, rfl⟩) | cases h
def WhS (P : Ro → FR) : Prop := ∀ d, askD d = true → WpF (P [.sh d]) (fun v o => v = .sh (.bool (isW d)) ∧ o = [.sh d]) noE
def WiS (P : Ro → FR) : Prop := ∀ d lo hi, askD d = true → WpF (P [.sh d, .sh (.int lo), .sh (.int hi)]) (fun v o => v = .sh (.bool (within d lo hi)) ∧ o = [.sh d, .sh (.int lo), .sh (.int hi)]) noE
theorem pIsi_of {t : String} {d : PyData} {b : Bool} (h : tyD d t = some b) : pIsi t [d] = some (.sh (.bool b)) := by
  show (tyD d t).map _ = _
  rw [h]; rfl
theorem is_whole_ok {fu : Nat} {Phi : Nat → Ro → FR} : WhS (runF fu Phi f_is_whole) := by
  intro d hd
  obtain ⟨b, c, h1, h2, h3⟩ := whole_cases hd
  refine wp_fn rfl rfl ?_
  unfold b_is_whole
  simp_arith [pIsi_of h1, pIsi_of h2]
  rw [← h3]
  refine ⟨fun h => ?_, fun h => ?_⟩
  · subst h; rfl
  · subst h; rfl
theorem is_within_ok {fu c : Nat} {Phi : Nat → Ro → FR} (hW : WhS (Phi c)) : WiS (runF fu Phi (f_is_within c)) := by
  intro d lo hi hd
  refine wp_fn rfl rfl ?_
  unfold b_is_within
  simp_arith
  refine (hW d hd).to ?_
  rintro _ _ ⟨rfl, rfl⟩
  simp_arith
  refine ⟨fun h => ?_, fun h => ?_⟩
  · unfold isW at h
    split at h
    · rename_i n
      simp_arith
      unfold within
      exact ⟨fun q => by simp [q], fun q => by simp [q]⟩
    · cases h
  · have : within d lo hi = false := by
      unfold within
      split
      · cases h
      · rfl
    rw [this]
def PrimeI (n : Int) : Prop := 2 ≤ n ∧ ∀ b : Int, 2 ≤ b → b * b ≤ n → n % b ≠ 0
theorem within_int {d : PyData} {lo hi : Int} (h : within d lo hi = true) : ∃ n, d = .int n ∧ lo ≤ n ∧ n ≤ hi := by
  unfold within at h
  split at h
  · rename_i n
    simp only [Bool.and_eq_true, decide_eq_true_eq] at h
    exact ⟨n, rfl, h.1, h.2⟩
  · cases h
def NextP (n p : Int) : Prop := n ≤ p ∧ p ≤ 9001 ∧ PrimeI p ∧ ∀ a, n ≤ a → a < p → ¬ PrimeI a
end Lib
end

section
set_option maxHeartbeats 8000000
set_option linter.all false
namespace Mf
theorem sub_perm {α : Type} [BEq α] [LawfulBEq α] : ∀ {M L : List α}, M.Nodup → (∀ x ∈ M, x ∈ L) → ∃ rest, L.Perm (M ++ rest)
  | [], L, _, _ => ⟨L, by simp⟩
  | x :: M, L, hn, hs => by
    have hx : x ∈ L := hs x (by simp)
    rw [List.nodup_cons] at hn
    obtain ⟨rest, h⟩ := sub_perm (M := M) (L := L.erase x) hn.2 fun y hy => by
      have hyx : y ≠ x := fun e => hn.1 (e ▸ hy)
      exact (List.mem_erase_of_ne hyx).mpr (hs y (by simp [hy]))
    exact ⟨rest, (List.perm_cons_erase hx).trans (h.cons x)⟩
end Mf
end

section
set_option maxHeartbeats 8000000
set_option linter.all false
namespace Md
def sm : Nat → (Nat → Int) → Int
  | 0, _ => 0
  | n + 1, f => sm n f + f n
def sg (j : Nat) : Int := 1 - 2 * ((j % 2 : Nat) : Int)
def sk (j c : Nat) : Nat := if c < j then c else c + 1
abbrev Mat := Nat → Nat → Int
def mi (j : Nat) (M : Mat) : Mat := fun i c => M (i + 1) (sk j c)
def det : Nat → Mat → Int
  | 0, _ => 1
  | n + 1, M => sm (n + 1) fun j => sg j * (M 0 j * det n (mi j M))
def rw_ (M : Mat) (k : Nat) (u : Nat → Int) : Mat := fun i => if i = k then u else M i
def pr : Nat → (Nat → Int) → Int
  | 0, _ => 1
  | n + 1, f => f 0 * pr n (fun i => f (i + 1))
end Md
end

section
set_option maxHeartbeats 8000000
set_option linter.all false
namespace Md
def mat (R : List (List Int)) : Mat := fun i j => (R.getD i []).getD j 0
def sub (a : Nat) (M : Mat) : Mat := fun i c => M (a + i) (a + c)
theorem dvd_of_eq {p a b : Int} (h : a % p = b % p) : p ∣ a - b := Int.dvd_of_emod_eq_zero (Int.emod_eq_emod_iff_emod_sub_eq_zero.mp h)
theorem dvd_mod (p a : Int) : p ∣ a % p - a := dvd_of_eq (Int.emod_emod_of_dvd a (Int.dvd_refl p))
theorem sub_zero (M : Mat) : sub 0 M = M := by funext i c; simp [sub]
def ln (p : Int) (m : Nat) (x : Int) : List Int := (List.range m).map fun j => x ^ j % p
end Md
end

section
set_option Elab.async false
set_option linter.all false
set_option maxRecDepth 100000
set_option maxHeartbeats 1000000
namespace Lib
open PySem Ev Mc
def encL (l : List Int) : PyData := .list (l.map PyData.int)
theorem getD_out {R : List (List Int)} {i : Nat} (h : ¬ i < R.length) : R.getD i [] = [] := by
  rw [List.getD_eq_getElem?_getD, List.getElem?_eq_none (by omega)]; rfl
def Ent (p : Int) (R : List (List Int)) : Prop := ∀ r ∈ R, ∀ x ∈ r, 0 ≤ x ∧ x < p
theorem Ent.mat {p : Int} {R : List (List Int)} (h : Ent p R) (hp : 0 < p) (i j : Nat) : 0 ≤ Md.mat R i j ∧ Md.mat R i j < p := by
  unfold Md.mat
  by_cases h1 : i < R.length
  · by_cases h2 : j < (R.getD i []).length
    · have e : (R.getD i []).getD j 0 = (R.getD i [])[j] := by simp only [List.getD_eq_getElem?_getD (l := R.getD i []), List.getElem?_eq_getElem h2]; rfl
      rw [e]
      exact h _ (by simp [List.getD_eq_getElem?_getD, h1]) _ (List.getElem_mem h2)
    · rw [List.getD_eq_getElem?_getD (l := R.getD i []), List.getElem?_eq_none (by omega)]
      exact ⟨Int.le_refl 0, hp⟩
  · rw [getD_out h1]
    exact ⟨Int.le_refl 0, hp⟩
theorem Ent.of {p : Int} {R : List (List Int)} {m : Nat} (hm : ∀ r ∈ R, r.length = m) (h : ∀ i j, i < R.length → j < m → 0 ≤ Md.mat R i j ∧ Md.mat R i j < p) : Ent p R := by
  intro r hr x hx
  obtain ⟨i, hi, rfl⟩ := List.getElem_of_mem hr
  obtain ⟨j, hj, rfl⟩ := List.getElem_of_mem hx
  have := h i j hi (by rw [← hm _ hr]; exact hj)
  unfold Md.mat at this
  rw [List.getD_eq_getElem?_getD, List.getD_eq_getElem?_getD, List.getElem?_eq_getElem hi, Option.getD_some, List.getElem?_eq_getElem hj, Option.getD_some] at this
  exact this
end Lib
end

section
set_option maxHeartbeats 8000000
set_option linter.all false
namespace Md
def cd (k : Nat) (L : Nat → Int → Int) (S : List Int) : Int := det k (fun i j => L i (S.getD j 0))
def su {α : Type} (f : α → Int) : List α → Int
  | [] => 0
  | a :: l => f a + su f l
abbrev Up (S : List Int) : Prop := S.Pairwise (· < ·)
theorem Up.nodup {S : List Int} (h : Up S) : S.Nodup := h.imp (by intro a b h z; omega)
theorem erase_perm {S : List Int} {j : Nat} (h : j < S.length) : (S.eraseIdx j ++ [S.getD j 0]).Perm S := by
  have e : S.getD j 0 = S[j] := by rw [List.getD_eq_getElem?_getD, List.getElem?_eq_getElem h]; rfl
  rw [e]
  refine List.perm_append_comm.trans ?_
  have : S = S.take j ++ S[j] :: S.drop (j + 1) := by rw [List.getElem_cons_drop]; exact (List.take_append_drop j S).symm
  have e2 : S.eraseIdx j = S.take j ++ S.drop (j + 1) := List.eraseIdx_eq_take_drop_succ S j
  rw [e2]
  conv => rhs; rw [this]
  exact (List.perm_middle (a := S[j]) (l₁ := S.take j) (l₂ := S.drop (j + 1))).symm
abbrev Tb := List (List Int × Int)
end Md
end

section
set_option maxHeartbeats 8000000
set_option linter.all false
namespace Md
open Mc
def wo (T : List Int) (c : Int) : List Int := T.filter fun x => decide (x ≠ c)
theorem rise_up : ∀ {S : List Int} {m lo : Int}, Rise m lo S ↔ Up S ∧ ∀ x ∈ S, lo ≤ x ∧ x < m
  | [], m, lo => by simp [Rise, Up]
  | a :: S, m, lo => by
    simp only [Rise, Up, List.pairwise_cons, List.mem_cons, forall_eq_or_imp]
    rw [rise_up]
    constructor
    · rintro ⟨h1, h2, h3, h4⟩
      exact ⟨⟨fun b hb => by have := h4 b hb; omega, h3⟩, ⟨h1, h2⟩, fun x hx => by have := h4 x hx; omega⟩
    · rintro ⟨⟨h1, h2⟩, ⟨h3, h4⟩, h5⟩
      exact ⟨h3, h4, h2, fun x hx => by have := h1 x hx; have := h5 x hx; omega⟩
def ins (S : List Int) (c : Int) : List Int := (S ++ [c]).mergeSort fun a b => decide (a ≤ b)
theorem tri (k : Nat) : (k + 1) * (k + 1 - 1) / 2 = k * (k - 1) / 2 + k := by
  cases k with
  | zero => rfl
  | succ k =>
    rw [Nat.add_sub_cancel, Nat.add_sub_cancel]
    rw [show (k + 1 + 1) * (k + 1) = (k + 1) * k + (k + 1) * 2 by rw [← Nat.mul_add, Nat.mul_comm]]
    rw [Nat.add_mul_div_right _ _ (by decide)]
end Md
end

section
set_option maxHeartbeats 8000000
set_option Elab.async false
set_option linter.all false
namespace Md
abbrev Vc := Nat → Int
def vc (r : List Int) : Vc := fun j => r.getD j 0
def Cg (p : Int) (n : Nat) (v w : Vc) : Prop := ∀ j, j < n → p ∣ v j - w j
def Zr (p : Int) (n : Nat) (v : Vc) : Prop := ∀ j, j < n → p ∣ v j
theorem Cg.refl {p : Int} {n : Nat} (v : Vc) : Cg p n v v := fun j _ => ⟨0, by simp⟩
theorem Cg.symm {p : Int} {n : Nat} {v w : Vc} (h : Cg p n v w) : Cg p n w v := fun j hj => by
  have := (Int.dvd_neg).mpr (h j hj)
  rwa [show -(v j - w j) = w j - v j by omega] at this
theorem Cg.trans {p : Int} {n : Nat} {u v w : Vc} (h : Cg p n u v) (g : Cg p n v w) : Cg p n u w := fun j hj => by
  have := Int.dvd_add (h j hj) (g j hj)
  rwa [show u j - v j + (v j - w j) = u j - w j by omega] at this
theorem Cg.zr {p : Int} {n : Nat} {v w : Vc} (h : Cg p n v w) (hw : Zr p n w) : Zr p n v := fun j hj => by
  have := Int.dvd_add (h j hj) (hw j hj)
  rwa [show v j - w j + w j = v j by omega] at this
theorem Cg.lin {p c : Int} {n : Nat} {v v' w w' : Vc} (h : Cg p n v v') (g : Cg p n w w') : Cg p n (fun j => v j + c * w j) (fun j => v' j + c * w' j) := fun j hj => by
  have := Int.dvd_add (h j hj) (Int.dvd_mul_of_dvd_right (a := p) (b := c) (g j hj))
  rw [Int.mul_sub] at this
  rwa [show v j - v' j + (c * w j - c * w' j) = v j + c * w j - (v' j + c * w' j) by omega] at this
inductive Sp (p : Int) (n : Nat) (B : Vc → Prop) : Vc → Prop
  | zr {v : Vc} : Zr p n v → Sp p n B v
  | add {v w b : Vc} {c : Int} : B b → Sp p n B v → Cg p n w (fun j => v j + c * b j) → Sp p n B w
theorem Sp.cg {p : Int} {n : Nat} {B : Vc → Prop} {v w : Vc} (h : Sp p n B v) (g : Cg p n w v) : Sp p n B w := by
  cases h with
  | zr h => exact .zr (g.zr h)
  | add hb hv hc => exact .add hb hv (g.trans hc)
theorem Sp.mono {p : Int} {n : Nat} {B B' : Vc → Prop} {v : Vc} (hB : ∀ b, B b → B' b) (h : Sp p n B v) : Sp p n B' v := by
  induction h with
  | zr h => exact .zr h
  | add hb _ hc ih => exact .add (hB _ hb) ih hc
theorem Sp.lin {p : Int} {n : Nat} {B : Vc → Prop} {v w : Vc} (c : Int) (hv : Sp p n B v) (hw : Sp p n B w) : Sp p n B (fun j => v j + c * w j) := by
  induction hw with
  | zr h =>
    refine hv.cg fun j hj => ?_
    rename_i w
    have := Int.dvd_mul_of_dvd_right (a := p) (b := c) (h j hj)
    rwa [show v j + c * w j - v j = c * w j by omega]
  | @add v' w b d hb _ hc ih =>
    refine .add (c := c * d) hb ih fun j hj => ?_
    have := Int.dvd_mul_of_dvd_right (a := p) (b := c) (hc j hj)
    rw [Int.mul_sub, Int.mul_add, ← Int.mul_assoc] at this
    rwa [show v j + c * w j - (v j + c * v' j + c * d * b j) = c * w j - (c * v' j + c * d * b j) by omega]
theorem Sp.one {p : Int} {n : Nat} {B : Vc → Prop} {b : Vc} (h : B b) : Sp p n B b :=
  .add (v := fun _ => 0) (c := 1) h (.zr fun j _ => ⟨0, by simp⟩) fun j _ => ⟨0, by simp⟩
theorem Sp.sub {p : Int} {n : Nat} {B B' : Vc → Prop} {v : Vc} (hB : ∀ b, B b → Sp p n B' b) (h : Sp p n B v) : Sp p n B' v := by
  induction h with
  | zr h => exact .zr h
  | add hb _ hc ih => exact (ih.lin _ (hB _ hb)).cg hc
theorem Sp.map {p : Int} {n m : Nat} {B : Vc → Prop} {v : Vc} (f : Vc → Vc) (f0 : ∀ v, Zr p n v → Zr p m (f v)) (fl : ∀ v w c, Cg p m (f fun j => v j + c * w j) (fun j => f v j + c * f w j)) (fc : ∀ v w, Cg p n v w → Cg p m (f v) (f w))
    (hB : ∀ b, B b → Zr p m (f b)) (h : Sp p n B v) : Zr p m (f v) := by
  induction h with
  | zr h => exact f0 _ h
  | @add v w b c hb _ hc ih =>
    refine ((fc _ _ hc).trans (fl v b c)).zr fun j hj => ?_
    exact Int.dvd_add (ih j hj) (Int.dvd_mul_of_dvd_right (hB _ hb j hj))
def Of (R : List (List Int)) (v : Vc) : Prop := ∃ r ∈ R, v = vc r
def cmb : List Int → List (List Int) → Vc
  | c :: cs, r :: R => fun j => c * vc r j + cmb cs R j
  | _, _ => fun _ => 0
theorem cmb_nil (R : List (List Int)) : cmb [] R = fun _ => 0 := by cases R <;> rfl
theorem cmb_app : ∀ {cs : List Int} {R R' : List (List Int)}, cs.length ≤ R.length → cmb cs (R ++ R') = cmb cs R
  | [], R, R', _ => by rw [cmb_nil, cmb_nil]
  | c :: cs, [], R', h => by cases h
  | c :: cs, r :: R, R', h => by
    have := cmb_app (cs := cs) (R := R) (R' := R') (by simpa using h)
    simp only [List.cons_append, cmb, this]
theorem cmb_sp {p : Int} {n : Nat} : ∀ (cs : List Int) (R : List (List Int)), Sp p n (Of R) (cmb cs R)
  | [], R => by rw [cmb_nil]; exact .zr fun j _ => ⟨0, by simp⟩
  | c :: cs, [] => .zr fun j _ => ⟨0, by simp [cmb]⟩
  | c :: cs, r :: R => by
    have h := (cmb_sp (p := p) (n := n) cs R).mono (B' := Of (r :: R)) fun b ⟨q, hq, e⟩ => ⟨q, List.mem_cons_of_mem _ hq, e⟩
    refine .add (b := vc r) (c := c) ⟨r, by simp, rfl⟩ h fun j _ => ⟨0, ?_⟩
    simp only [cmb]; omega
structure St where
  pl : Nat
  rw : List Int
  sh : List Int
def outF : List St → Vc → Vc
  | [], v => v
  | s :: ss, v => outF ss fun j => v j - v s.pl * vc s.rw j
theorem outF_app : ∀ (ss tt : List St) (v : Vc), outF (ss ++ tt) v = outF tt (outF ss v)
  | [], _, _ => rfl
  | s :: ss, tt, v => outF_app ss tt _
theorem outF_lin : ∀ (ss : List St) (v w : Vc) (c : Int), outF ss (fun j => v j + c * w j) = fun j => outF ss v j + c * outF ss w j
  | [], _, _, _ => rfl
  | s :: ss, v, w, c => by
    simp only [outF]
    rw [← outF_lin ss]
    congr 1
    funext j
    rw [Int.add_mul, Int.mul_sub, Int.mul_assoc]; omega
theorem outF_cg {p : Int} {n : Nat} : ∀ {ss : List St} {v w : Vc}, (∀ s ∈ ss, s.pl < n) → Cg p n v w → Cg p n (outF ss v) (outF ss w)
  | [], _, _, _, h => h
  | s :: ss, v, w, hs, h => by
    refine outF_cg (ss := ss) (v := fun j => v j - v s.pl * vc s.rw j) (w := fun j => w j - w s.pl * vc s.rw j) (fun t ht => hs t (by simp [ht])) fun j hj => ?_
    have h1 := h j hj
    have h2 := Int.dvd_mul_of_dvd_left (c := vc s.rw j) (h s.pl (hs s (by simp)))
    have := Int.dvd_sub h1 h2
    rw [Int.sub_mul] at this
    rwa [show ∀ a b c d : Int, a - b - (c - d) = a - c - (b - d) from fun a b c d => by omega] at this
theorem outF_zr {p : Int} {n : Nat} {ss : List St} {v : Vc} (hs : ∀ s ∈ ss, s.pl < n) (h : Zr p n v) : Zr p n (outF ss v) := by
  have h0 : outF ss (fun _ => 0) = fun _ => 0 := by
    have : ∀ ss : List St, outF ss (fun _ => 0) = fun _ => 0 := by
      intro ss
      induction ss with
      | nil => rfl
      | cons s ss ih =>
        simp only [outF]
        rw [show (fun j => (0 : Int) - 0 * vc s.rw j) = fun _ => 0 from by funext j; simp]
        exact ih
    exact this ss
  have := outF_cg (v := v) (w := fun _ => 0) hs (fun j hj => by simpa using h j hj)
  rw [h0] at this
  exact this.zr fun j _ => ⟨0, by simp⟩
structure LnOk (p : Int) (n : Nat) (O : List (List Int)) (ss : List St) : Prop where
  len : O.length = ss.length
  pl : ∀ s ∈ ss, s.pl < n
  rl : ∀ s ∈ ss, s.rw.length = n
  re : ∀ s ∈ ss, ∀ x ∈ s.rw, 0 ≤ x ∧ x < p
  sl : ∀ i s, ss[i]? = some s → s.sh.length = i + 1
  se : ∀ s ∈ ss, ∀ x ∈ s.sh, 0 ≤ x ∧ x < p
  cm : ∀ s ∈ ss, Cg p n (vc s.rw) (cmb s.sh O)
  out : ∀ o ∈ O, Zr p n (outF ss (vc o))
theorem LnOk.nil (p : Int) (n : Nat) : LnOk p n [] [] := ⟨rfl, by simp, by simp, by simp, by simp, by simp, by simp, by simp⟩
theorem LnOk.left {p : Int} {n : Nat} {O : List (List Int)} {ss : List St} (h : LnOk p n O ss) (v : Vc) : Sp p n (Of O) fun j => v j - outF ss v j := by
  have key : ∀ (tt : List St), (∀ s ∈ tt, Cg p n (vc s.rw) (cmb s.sh O)) → ∀ v : Vc, Sp p n (Of O) fun j => v j - outF tt v j := by
    intro tt
    induction tt with
    | nil => intro _ v; exact .zr fun j _ => ⟨0, by simp [outF]⟩
    | cons s tt ih =>
      intro ht v
      have h1 := ih (fun t q => ht t (by simp [q])) (fun j => v j - v s.pl * vc s.rw j)
      have h2 : Sp p n (Of O) (vc s.rw) := (cmb_sp s.sh O).cg (ht s (by simp))
      refine (h1.lin (v s.pl) h2).cg fun j _ => ⟨0, ?_⟩
      simp only [outF]; omega
  exact key ss h.cm v
theorem LnOk.put {p : Int} {n : Nat} {O : List (List Int)} {ss : List St} (h : LnOk p n O ss) {r rest sh rw sh' : List Int} {pl : Nat} {c : Int} (h1 : Cg p n (vc rest) (outF ss (vc r))) (h2 : Cg p n (vc r) (fun j => vc rest j + cmb sh O j)) (hsl : sh.length = ss.length)
    (hpl : pl < n) (hc : p ∣ vc rest pl * c - 1) (hrl : rw.length = n) (hre : ∀ x ∈ rw, 0 ≤ x ∧ x < p) (hrc : Cg p n (vc rw) (fun j => vc rest j * c)) (hse : ∀ x ∈ sh', 0 ≤ x ∧ x < p) (hsl' : sh'.length = sh.length + 1) (hsc : Cg p n (cmb sh' (O ++ [r])) (fun j => c * (vc r j - cmb sh O j))) :
    LnOk p n (O ++ [r]) (ss ++ [⟨pl, rw, sh'⟩]) := by
  have hm : ∀ {P : St → Prop}, (∀ s ∈ ss, P s) → P ⟨pl, rw, sh'⟩ → ∀ s ∈ ss ++ [⟨pl, rw, sh'⟩], P s := fun q1 q2 s hs => by
    rcases List.mem_append.mp hs with q | q
    · exact q1 s q
    · rw [List.mem_singleton.mp q]; exact q2
  have hpls := hm h.pl hpl
  have lsh : ∀ s ∈ ss, s.sh.length ≤ O.length := fun s hs => by
    obtain ⟨i, hi⟩ := List.getElem?_of_mem hs
    have := h.sl i s hi
    have := (List.getElem?_eq_some_iff.mp hi).1
    rw [h.len]; omega
  -- what is left of the new one
  have hnew : Zr p n (outF [⟨pl, rw, sh'⟩] (outF ss (vc r))) := by
    have hz : Zr p n (outF [⟨pl, rw, sh'⟩] (vc rest)) := fun j hj => by
      show p ∣ vc rest j - vc rest pl * vc rw j
      have a1 := Int.dvd_mul_of_dvd_right (a := p) (b := vc rest pl) (hrc j hj)
      have a2 := Int.dvd_mul_of_dvd_left (c := vc rest j) hc
      have a3 := Int.dvd_add a1 a2
      have a4 := (Int.dvd_neg).mpr a3
      rw [Int.mul_sub, Int.sub_mul, Int.one_mul] at a4
      have e : vc rest pl * (vc rest j * c) = vc rest pl * c * vc rest j := by
        simp only [Int.mul_assoc, Int.mul_comm, Int.mul_left_comm]
      rw [e] at a4
      rwa [show ∀ a b c : Int, -(a - b + (b - c)) = c - a from fun a b c => by omega] at a4
    exact (outF_cg (ss := [⟨pl, rw, sh'⟩]) (fun s hs => by rw [List.mem_singleton.mp hs]; exact hpl) h1.symm).zr hz
  constructor
  · rw [List.length_append, List.length_append, h.len]; rfl
  · exact hpls
  · exact hm h.rl hrl
  · exact hm h.re hre
  · intro i s hi
    by_cases hlt : i < ss.length
    · rw [List.getElem?_append_left hlt] at hi
      exact h.sl i s hi
    · rw [List.getElem?_append_right (by omega)] at hi
      have : i - ss.length = 0 := by
        have := (List.getElem?_eq_some_iff.mp hi).1
        simp at this; omega
      rw [this] at hi
      cases hi
      show sh'.length = i + 1
      omega
  · exact hm h.se hse
  · refine hm (fun s hs => ?_) ?_
    · rw [cmb_app (lsh s hs)]; exact h.cm s hs
    · refine hrc.trans ?_
      refine Cg.trans ?_ hsc.symm
      intro j hj
      have := Int.dvd_mul_of_dvd_right (a := p) (b := c) (h2 j hj)
      have := (Int.dvd_neg).mpr this
      rw [Int.mul_sub, Int.mul_add] at this
      show p ∣ vc rest j * c - c * (vc r j - cmb sh O j)
      rw [Int.mul_sub, Int.mul_comm (vc rest j) c]
      rwa [show ∀ a b d : Int, -(a - (b + d)) = b - (a - d) from fun a b d => by omega] at this
  · intro o ho
    rw [outF_app]
    rcases List.mem_append.mp ho with q | q
    · exact outF_zr (fun s hs => by rw [List.mem_singleton.mp hs]; exact hpl) (h.out o q)
    · rw [List.mem_singleton.mp q]; exact hnew
end Md
end

section
set_option Elab.async false
set_option linter.all false
set_option maxRecDepth 100000
set_option maxHeartbeats 1000000
namespace Lib
open PySem Ev Mc Md
def b_Lean___init__ : CSs := ((.cons (.fput 0 0 (Str.ofString "prime") (.var 1))
    (.cons (.fput 0 0 (Str.ofString "steps") (.lst .nil))
    .nil)))
def f_Lean___init__ : Fn := ⟨2, 2, [0, 1], b_Lean___init__⟩
def encS (s : St) : PyData := .tuple [.int s.pl, encL s.rw, encL s.sh]
def fsO (p : Int) (ss : List St) : List (Str × Fd) := [(Str.ofString "prime", .sh (.int p)), (Str.ofString "steps", .lst (ss.map encS))]
theorem fs_init {p : Int} : putFd (Str.ofString "steps") (.lst []) (putFd (Str.ofString "prime") (.sh (.int p)) []) = fsO p [] := rfl
def InitS (P : Ro → FR) : Prop := ∀ p : Int, WpF (P [.obj 0 [], .sh (.int p)]) (fun v o => v = .sh .none ∧ o = [.obj 0 (fsO p []), .sh (.int p)]) noE
theorem init_ok {fu : Nat} {Phi : Nat → Ro → FR} : InitS (runF fu Phi f_Lean___init__) := by
  intro p
  refine wp_fn rfl rfl ?_
  unfold b_Lean___init__
  simp_arith [fs_init, putFd]
  rfl
theorem cmb_add {p c : Int} : ∀ {U sh W : List Int} {O : List (List Int)} (j : Nat), W.length = U.length → sh.length ≤ U.length → (∀ l, p ∣ W.getD l 0 - (U.getD l 0 + c * sh.getD l 0)) → p ∣ cmb W O j - (cmb U O j + c * cmb sh O j)
  | U, sh, W, [], j, _, _, _ => ⟨0, by cases U <;> cases sh <;> cases W <;> simp [cmb]⟩
  | [], [], [], o :: O, j, _, _, _ => ⟨0, by simp [cmb]⟩
  | [], _ :: _, _, _ :: _, _, _, h, _ => by cases h
  | [], _, _ :: _, _ :: _, _, h, _, _ => by cases h
  | _ :: _, _, [], _ :: _, _, h, _, _ => by cases h
  | u :: U, [], w :: W, o :: O, j, h1, h2, h3 => by
    have ih := cmb_add (p := p) (c := c) (U := U) (sh := []) (W := W) (O := O) j (by simpa using h1) (by simp) (fun l => by have := h3 (l + 1); simpa using this)
    have h0 := h3 0
    simp only [List.getD_cons_zero, List.getD_nil] at h0
    have h0 := Int.dvd_mul_of_dvd_left (c := vc o j) h0
    have := Int.dvd_add h0 ih
    rw [cmb_nil] at this
    simp only [cmb]
    rw [Int.sub_mul, Int.add_mul] at this
    simp only [Int.mul_zero, Int.zero_mul, Int.add_zero] at this ⊢
    rwa [show ∀ a b c d : Int, a - b + (c - d) = a + c - (b + d) from fun a b c d => by omega] at this
  | u :: U, s :: sh, w :: W, o :: O, j, h1, h2, h3 => by
    have ih := cmb_add (p := p) (c := c) (U := U) (sh := sh) (W := W) (O := O) j (by simpa using h1) (by simpa using h2) (fun l => by have := h3 (l + 1); simpa using this)
    have h0 := h3 0
    simp only [List.getD_cons_zero] at h0
    have h0 := Int.dvd_mul_of_dvd_left (c := vc o j) h0
    have := Int.dvd_add h0 ih
    simp only [cmb]
    rw [Int.sub_mul, Int.add_mul, Int.mul_assoc] at this
    rw [Int.mul_add]
    rwa [show ∀ a b e c d f : Int, a - (b + e) + (c - (d + f)) = a + c - (b + d + (e + f)) from fun a b e c d f => by omega] at this
def Ov (p : Int) (l : List Int) : Prop := ∀ x ∈ l, 0 ≤ x ∧ x < p
theorem Ov.at {p : Int} {l : List Int} (h : Ov p l) (hp : 0 < p) (j : Nat) : 0 ≤ l.getD j 0 ∧ l.getD j 0 < p := by
  by_cases hj : j < l.length
  · rw [List.getD_eq_getElem?_getD, List.getElem?_eq_getElem hj]; exact h _ (List.getElem_mem hj)
  · rw [List.getD_eq_getElem?_getD, List.getElem?_eq_none (by omega)]; exact ⟨by simp, hp⟩
theorem Ov.of {p : Int} {l : List Int} (h : ∀ j, j < l.length → 0 ≤ l.getD j 0 ∧ l.getD j 0 < p) : Ov p l := fun x hx => by
  obtain ⟨j, hj, rfl⟩ := List.getElem_of_mem hx
  have := h j hj
  rwa [List.getD_eq_getElem?_getD, List.getElem?_eq_getElem hj] at this
theorem ov_map {p : Int} {α : Type} {f : α → Int} {l : List α} (hp : 0 < p) : Ov p (l.map fun a => f a % p) := fun x hx => by
  obtain ⟨a, _, rfl⟩ := List.mem_map.mp hx
  exact ⟨mod_nn _ hp, mod_lt _ hp⟩
theorem dvd_mod (p a : Int) : p ∣ a % p - a := by
  refine Int.dvd_of_emod_eq_zero ?_
  rw [Int.sub_emod, Int.emod_emod_of_dvd _ (Int.dvd_refl p)]
  simp
structure TkOk (p : Int) (n : Nat) (O : List (List Int)) (ss : List St) (r L U : List Int) : Prop where
  ll : L.length = n
  lo : Ov p L
  ul : U.length = O.length
  uo : Ov p U
  cg : Cg p n (vc L) (outF ss (vc r))
  cm : Cg p n (vc r) (fun j => vc L j + cmb U O j)
theorem vc_zip {p c : Int} {L R : List Int} {j : Nat} (h1 : j < L.length) (h2 : j < R.length) : vc ((L.zip R).map fun q => (q.1 - c * q.2) % p) j = (vc L j - c * vc R j) % p := by
  unfold vc
  simp only [List.getD_eq_getElem?_getD, List.getElem?_map]
  rw [List.getElem?_eq_getElem (by rw [List.length_zip]; omega), List.getElem?_eq_getElem h1, List.getElem?_eq_getElem h2, List.getElem_zip]
  rfl
theorem TkOk.skip {p : Int} {n : Nat} {O : List (List Int)} {pre : List St} {r L U : List Int} {s : St} (h : TkOk p n O pre r L U) (hpl : s.pl < n) (h0 : L.getD s.pl 0 = 0) : TkOk p n O (pre ++ [s]) r L U := by
  refine ⟨h.ll, h.lo, h.ul, h.uo, fun j hj => ?_, h.cm⟩
  rw [outF_app]
  show p ∣ vc L j - (outF pre (vc r) j - outF pre (vc r) s.pl * vc s.rw j)
  have h1 := h.cg j hj
  have h2 := h.cg s.pl hpl
  rw [show vc L s.pl = 0 from h0, Int.zero_sub] at h2
  have h3 := Int.dvd_mul_of_dvd_left (c := vc s.rw j) ((Int.dvd_neg).mp h2)
  have := Int.dvd_add h1 h3
  rwa [show ∀ a b c : Int, a - b + c = a - (b - c) from fun a b c => by omega] at this
theorem TkOk.step {p c : Int} {n : Nat} {O : List (List Int)} {pre : List St} {r L U W : List Int} {s : St} (h : TkOk p n O pre r L U) (hp : 0 < p) (hpl : s.pl < n) (hrl : s.rw.length = n) (hsl : s.sh.length ≤ U.length) (hcm : Cg p n (vc s.rw) (cmb s.sh O)) (hc : L.getD s.pl 0 = c)
    (hW : W.length = U.length) (hWl : ∀ l, W.getD l 0 = if l < s.sh.length then (U.getD l 0 + c * s.sh.getD l 0) % p else U.getD l 0) : TkOk p n O (pre ++ [s]) r ((L.zip s.rw).map fun q => (q.1 - c * q.2) % p) W := by
  have hz : ∀ j, j < n → vc ((L.zip s.rw).map fun q => (q.1 - c * q.2) % p) j = (vc L j - c * vc s.rw j) % p := fun j hj => vc_zip (by rw [h.ll]; omega) (by omega)
  refine ⟨by rw [List.length_map, List.length_zip, h.ll, hrl]; omega, ov_map hp, by rw [hW, h.ul], Ov.of fun l hl => ?_, fun j hj => ?_, fun j hj => ?_⟩
  · rw [hWl l]
    split
    · exact ⟨mod_nn _ hp, mod_lt _ hp⟩
    · exact h.uo.at hp l
  · rw [hz j hj, outF_app]
    show p ∣ (vc L j - c * vc s.rw j) % p - (outF pre (vc r) j - outF pre (vc r) s.pl * vc s.rw j)
    have h0 := dvd_mod p (vc L j - c * vc s.rw j)
    have h1 := h.cg j hj
    have h2 := h.cg s.pl hpl
    rw [show vc L s.pl = c from hc] at h2
    have h3 := Int.dvd_mul_of_dvd_left (c := vc s.rw j) h2
    rw [Int.sub_mul] at h3
    have := Int.dvd_add h0 (Int.dvd_sub h1 h3)
    rwa [show ∀ x a b d e : Int, x - (a - b) + (a - d - (b - e)) = x - (d - e) from fun x a b d e => by omega] at this
  · show p ∣ vc r j - (vc ((L.zip s.rw).map fun q => (q.1 - c * q.2) % p) j + cmb W O j)
    rw [hz j hj]
    have h0 := dvd_mod p (vc L j - c * vc s.rw j)
    have h1 := h.cm j hj
    have h2 := Int.dvd_mul_of_dvd_right (a := p) (b := c) (hcm j hj)
    rw [Int.mul_sub] at h2
    have h3 := cmb_add (p := p) (c := c) (O := O) j hW hsl fun l => by
      rw [hWl l]
      split
      · exact dvd_mod _ _
      · rename_i hh
        rw [show s.sh.getD l 0 = 0 from by rw [List.getD_eq_getElem?_getD, List.getElem?_eq_none (by omega)]; rfl, Int.mul_zero, Int.add_zero, Int.sub_self]
        exact ⟨0, by simp⟩
    have := Int.dvd_sub (Int.dvd_sub (Int.dvd_add h1 h2) h0) h3
    change p ∣ vc r j - (vc L j + cmb U O j) + (c * vc s.rw j - c * cmb s.sh O j) - ((vc L j - c * vc s.rw j) % p - (vc L j - c * vc s.rw j)) - (cmb W O j - (cmb U O j + c * cmb s.sh O j)) at this
    rwa [show ∀ a l u b e x w : Int, a - (l + u) + (b - e) - (x - (l - b)) - (w - (u + e)) = a - (x + w) from fun a l u b e x w => by omega] at this
end Lib
end

section
set_option Elab.async false
set_option linter.all false
set_option maxRecDepth 100000
set_option maxHeartbeats 1000000
namespace Lib
open PySem Ev Mc Md
open Classical in
noncomputable def lnB (p : Int) (n : Nat) (R : List (List Int)) (r : List Int) : Bool := decide (Sp p n (Of R) (vc r))
noncomputable def freeN (p : Int) (n : Nat) (R : List (List Int)) : List Nat := (List.range R.length).filter fun i => !lnB p n (R.take i) (R.getD i [])
end Lib
end

section
set_option maxHeartbeats 8000000
set_option Elab.async false
set_option linter.all false
namespace Md
def Ind (p : Int) (n : Nat) (O : List (List Int)) : Prop := ∀ i, i < O.length → ¬ Sp p n (Of (O.take i)) (vc (O.getD i []))
theorem Ind.nil {p : Int} {n : Nat} : Ind p n [] := fun i h => by cases h
def Inv (p : Int) : Prop := ∀ a : Int, ¬ p ∣ a → ∃ c : Int, p ∣ a * c - 1
theorem of_mono {R S : List (List Int)} (h : ∀ r ∈ R, r ∈ S) : ∀ b, Of R b → Of S b := fun b ⟨r, hr, e⟩ => ⟨r, h r hr, e⟩
structure LwOk (p : Int) (n : Nat) (O : List (List Int)) (ss : List St) : Prop where
  len : ss.length = O.length
  pl : ∀ s ∈ ss, s.pl < n
  eq : ∀ v, Zr p n (outF ss v) ↔ Sp p n (Of O) v
  zp : ∀ v, ∀ s ∈ ss, p ∣ outF ss v s.pl
  nd : (ss.map (·.pl)).Nodup
theorem LwOk.nil (p : Int) (n : Nat) : LwOk p n [] [] := ⟨rfl, by simp, fun v => ⟨.zr, fun h => by
  cases h with
  | zr h => exact h
  | add hb _ _ => obtain ⟨_, h, _⟩ := hb; cases h⟩, by simp, by simp⟩
theorem LwOk.put {p : Int} {n : Nat} {O : List (List Int)} {ss : List St} (h : LwOk p n O ss) (hp1 : ¬ p ∣ 1) {r rw sh : List Int} {w : Vc} {pl : Nat} {c : Int} (h1 : Cg p n w (outF ss (vc r))) (hpl : pl < n) (hc : p ∣ w pl * c - 1) (hrc : Cg p n (vc rw) (fun j => w j * c)) :
    LwOk p n (O ++ [r]) (ss ++ [⟨pl, rw, sh⟩]) := by
  have hm : ∀ {P : St → Prop}, (∀ s ∈ ss, P s) → P ⟨pl, rw, sh⟩ → ∀ s ∈ ss ++ [⟨pl, rw, sh⟩], P s := fun q1 q2 s hs => by
    rcases List.mem_append.mp hs with q | q
    · exact q1 s q
    · rw [List.mem_singleton.mp q]; exact q2
  have hs1 : ∀ s ∈ [(⟨pl, rw, sh⟩ : St)], s.pl < n := fun s hs => by rw [List.mem_singleton.mp hs]; exact hpl
  have o1 : ∀ v j, outF (ss ++ [⟨pl, rw, sh⟩]) v j = outF ss v j - outF ss v pl * vc rw j := fun v j => by rw [outF_app]; rfl
  have zw : ∀ s ∈ ss, p ∣ w s.pl := fun s hs => by
    have := Int.dvd_add (h1 s.pl (h.pl s hs)) (h.zp (vc r) s hs)
    rwa [show w s.pl - outF ss (vc r) s.pl + outF ss (vc r) s.pl = w s.pl by omega] at this
  have zr : ∀ s ∈ ss, p ∣ vc rw s.pl := fun s hs => by
    have := Int.dvd_add (hrc s.pl (h.pl s hs)) (Int.dvd_mul_of_dvd_left (c := c) (zw s hs))
    rwa [show ∀ a b : Int, a - b + b = a from fun a b => by omega] at this
  have r1 : p ∣ vc rw pl - 1 := by
    have := Int.dvd_add (hrc pl hpl) hc
    rwa [show ∀ a b : Int, a - b + (b - 1) = a - 1 from fun a b => by omega] at this
  -- the new one is taken out
  have hnew : Zr p n (outF [⟨pl, rw, sh⟩] (outF ss (vc r))) := by
    have hz : Zr p n (outF [⟨pl, rw, sh⟩] w) := fun j hj => by
      show p ∣ w j - w pl * vc rw j
      have a1 := Int.dvd_mul_of_dvd_right (a := p) (b := w pl) (hrc j hj)
      have a2 := Int.dvd_mul_of_dvd_left (c := w j) hc
      have a4 := (Int.dvd_neg).mpr (Int.dvd_add a1 a2)
      rw [Int.mul_sub, Int.sub_mul, Int.one_mul] at a4
      have e : w pl * (w j * c) = w pl * c * w j := by simp only [Int.mul_assoc, Int.mul_comm, Int.mul_left_comm]
      rw [e] at a4
      rwa [show ∀ a b c : Int, -(a - b + (b - c)) = c - a from fun a b c => by omega] at a4
    exact (outF_cg hs1 h1.symm).zr hz
  refine ⟨by rw [List.length_append, List.length_append, h.len]; rfl, hm h.pl hpl, fun v => ⟨fun z => ?_, fun z => ?_⟩, fun v => hm (fun s hs => ?_) ?_, ?_⟩
  · -- what is left of v is a part of the new one
    have hk : Zr p n (outF ss fun j => v j + -(outF ss v pl * c) * vc r j) := fun j hj => by
      rw [outF_lin]
      have k1 := z j hj
      rw [o1] at k1
      have k2 := Int.dvd_mul_of_dvd_right (a := p) (b := outF ss v pl) (hrc j hj)
      have k3 := Int.dvd_mul_of_dvd_right (a := p) (b := outF ss v pl * c) (h1 j hj)
      have := Int.dvd_add (Int.dvd_add k1 k2) k3
      rw [Int.mul_sub, Int.mul_sub] at this
      show p ∣ outF ss v j + -(outF ss v pl * c) * outF ss (vc r) j
      rw [Int.neg_mul]
      have e : outF ss v pl * (w j * c) = outF ss v pl * c * w j := by simp only [Int.mul_assoc, Int.mul_comm, Int.mul_left_comm]
      rw [e] at this
      rwa [show ∀ a b c d : Int, a - b + (b - c) + (c - d) = a + -d from fun a b c d => by omega] at this
    have s1 := ((h.eq _).mp hk).mono (B' := Of (O ++ [r])) (of_mono fun x hx => List.mem_append_left _ hx)
    refine .add (b := vc r) (c := outF ss v pl * c) ⟨r, by simp, rfl⟩ s1 fun j _ => ⟨0, ?_⟩
    show v j - (v j + -(outF ss v pl * c) * vc r j + outF ss v pl * c * vc r j) = p * 0
    rw [Int.neg_mul]; omega
  · refine z.map _ (fun v z => outF_zr (hm h.pl hpl) z) (fun v w c => by rw [outF_lin]; exact Cg.refl _) (fun v w z => outF_cg (hm h.pl hpl) z) ?_
    rintro b ⟨o, ho, rfl⟩
    rw [outF_app]
    rcases List.mem_append.mp ho with q | q
    · exact outF_zr hs1 ((h.eq _).mpr (.one ⟨o, q, rfl⟩))
    · rw [List.mem_singleton.mp q]; exact hnew
  · rw [o1]
    exact Int.dvd_sub (h.zp v s hs) (Int.dvd_mul_of_dvd_right (zr s hs))
  · rw [o1]
    have := (Int.dvd_neg).mpr (Int.dvd_mul_of_dvd_right (a := p) (b := outF ss v pl) r1)
    rw [Int.mul_sub, Int.mul_one] at this
    rwa [show ∀ a b : Int, -(a - b) = b - a from fun a b => by omega] at this
  · rw [List.map_append, List.nodup_append]
    refine ⟨h.nd, by simp, fun a ha b hb => ?_⟩
    obtain ⟨s, hs, rfl⟩ := List.mem_map.mp ha
    have : b = pl := by simpa using hb
    subst this
    intro e
    have k1 := zw s hs
    rw [e] at k1
    have := Int.dvd_sub (Int.dvd_mul_of_dvd_left (c := c) k1) hc
    rw [show ∀ a : Int, a - (a - 1) = 1 from fun a => by omega] at this
    exact hp1 this
def lin : List (List Int) → Nat → Vc → Vc
  | [], _, _ => fun _ => 0
  | b :: B, k, x => fun t => x k * vc b t + lin B (k + 1) x t
end Md
end

section
set_option Elab.async false
set_option linter.all false
set_option maxRecDepth 100000
set_option maxHeartbeats 1000000
namespace Lib
open PySem Ev Mc

def b_law_choices (nm : Nat → Str) : CSs := ((.cons (.set (.name 2) (.lst (.cons (.tup .nil) .nil)))
    (.cons (.for_ (.name 3) (.rng1 (.var 1)) (.cons (.set (.name 4) (.lst .nil))
    (.cons (.for_ (.name 5) (.seq (.shr 2)) (.cons (.extend 4 (.lc (.op .add (.cons (.var 5) (.cons (.tup (.cons (.var 6) .nil)) .nil))) (.name 6) (.rng2 (.op .add (.cons (.op .item (.cons (.op .add (.cons (.lst (.cons (.op .neg (.cons (.cst (.int 1)) .nil)) .nil)) (.cons (.op .list_ (.cons (.var 5) .nil)) .nil))) (.cons (.op .neg (.cons (.cst (.int 1)) .nil)) .nil))) (.cons (.cst (.int 1)) .nil))) (.var 0)) .nil [(nm 0, 6)]))
    .nil))
    (.cons (.move 2 4)
    .nil))))
    (.cons (.ret (.var 2))
    .nil))))
def f_law_choices (nm : Nat → Str) : Fn := ⟨2, 7, [0, 1], b_law_choices nm⟩
def ChsS (P : Ro → FR) : Prop := ∀ (m : Int) (s : Nat), 0 ≤ m → m ≤ 23 → s ≤ 100 →
  WpF (P [.sh (.int m), .sh (.int s)]) (fun v o => v = .lst ((chs m s 0).map encT) ∧ o = [.sh (.int m), .sh (.int s)]) noE
theorem chs_small {m : Int} (hm : m ≤ 23) (s : Nat) : (chs m s 0).length ≤ 8388608 := by
  refine Nat.le_trans (chs_len_le _ _) ?_
  have h : (m - 0).toNat ≤ 23 := by omega
  have e : (2 : Nat) ^ 23 = 8388608 := by rfl
  rw [← e]
  exact Nat.pow_le_pow_right (by decide) h
theorem law_choices_ok {fu : Nat} {nm : Nat → Str} {Phi : Nat → Ro → FR} : ChsS (runF fu Phi (f_law_choices nm)) := by
  intro m s h0 h1 h2
  unfold f_law_choices
  refine wp_fn rfl rfl ?_
  unfold b_law_choices
  simp_arith
  refine wp_rng (fun k q => ∃ x2 x3 x4 x5, q = [.sh (.int m), .sh (.int s), x2, x3, x4, x5, .non] ∧ (x2 = .lst ((chs m k 0).map encT))) ⟨_, _, _, _, rfl, rfl⟩ ?_ ?_
  · rintro k q hk ⟨x2, x3, x4, x5, rfl, rfl⟩
    simp_arith
    refine wp_turns encT (fun pre q => ∃ y5, q = [.sh (.int m), .sh (.int s), .sh (.list ((chs m k 0).map encT)), .sh (.int (0 + (k : Int))), .lst ((pre.flatMap (ext m)).map encT), y5, .non]) (chs m k 0) ⟨_, rfl⟩ ?_ ?_
    · rintro pre t post q e ⟨y5, rfl⟩
      have hr := (mem_chs.mp (show t ∈ chs m k 0 by rw [e]; simp)).2
      have hl := rise_length hr (by omega)
      have hlast : -1 ≤ (-1 :: t).getLast (by simp) ∧ (-1 :: t).getLast (by simp) < m := by
        rcases List.mem_cons.mp (List.getLast_mem (l := -1 :: t) (by simp)) with h | h
        · omega
        · have := rise_lt hr _ h; omega
      have hsub : ((pre ++ [t]).flatMap (ext m)).length ≤ 8388608 := by
        refine Nat.le_trans ?_ (chs_small h1 (k + 1))
        rw [chs_ext0, e]
        simp only [List.flatMap_append, List.length_append, List.flatMap_cons, List.flatMap_nil, List.length_nil]
        omega
      simp_arith [pListT, atI_last, rngL_eq]
      refine wp_compM PyData.int (fun x => some (encT (t ++ [x]))) _ (fun x hx => ?_) ?_
      · simp_arith [pAddTs]
      · simp_arith
        have ef : (rng ((-1 :: t).getLast (by simp) + 1) m).filterMap (fun x => some (encT (t ++ [x]))) = (ext m t).map encT := by
          unfold ext
          rw [List.map_map, ← List.filterMap_eq_map]
          rfl
        have hf : (pre ++ [t]).flatMap (ext m) = pre.flatMap (ext m) ++ ext m t := by simp
        rw [hf, List.length_append] at hsub
        rw [ef, hf, List.map_append]
        exact ⟨small_of (by simp only [List.length_map]; omega), _, rfl⟩
    · rintro q ⟨y5, rfl⟩
      simp_arith
      refine ⟨_, _, _, _, rfl, ?_⟩
      rw [chs_ext0]
  · rintro q ⟨x2, x3, x4, x5, rfl, rfl⟩
    simp_arith
end Lib
end

section
set_option Elab.async false
set_option linter.all false
set_option maxRecDepth 100000
set_option maxHeartbeats 1000000
namespace Lib
open PySem Ev Mc
def b_law_worth (c_law_take : Nat) : CSs := ((.cons (.set (.name 1) (.call c_law_take (.cons (.ref 0) (.cons (.cst (.int 5)) .nil))))
    (.cons (.ite (.op .lt (.cons (.var 1) (.cons (.cst (.int 3)) .nil))) (.cons (.ret (.op .sub (.cons (.call c_law_take (.cons (.ref 0) (.cons (.cst (.int 5)) .nil))) (.cons (.cst (.int 2)) .nil))))
    .nil) .nil)
    (.cons (.ite (.op .eq (.cons (.var 1) (.cons (.cst (.int 3)) .nil))) (.cons (.ret (.op .sub (.cons (.call c_law_take (.cons (.ref 0) (.cons (.cst (.int 200)) .nil))) (.cons (.cst (.int 100)) .nil))))
    .nil) .nil)
    (.cons (.ret (.op .sub (.cons (.call c_law_take (.cons (.ref 0) (.cons (.op .add (.cons (.op .mul (.cons (.cst (.int 2)) (.cons (.op .pow (.cons (.cst (.int 10)) (.cons (.cst (.int 18)) .nil))) .nil))) (.cons (.cst (.int 1)) .nil))) .nil))) (.cons (.op .pow (.cons (.cst (.int 10)) (.cons (.cst (.int 18)) .nil))) .nil))))
    .nil)))))
def f_law_worth (c_law_take : Nat) : Fn := ⟨1, 2, [0], b_law_worth c_law_take⟩
def b_law_family (c_law_choices c_law_take c_law_worth : Nat) : CSs := ((.cons (.set (.name 4) (.call c_law_choices (.cons (.ref 1) (.cons (.ref 2) .nil))))
    (.cons (.set (.name 5) (.lst .nil))
    (.cons (.for_ (.name 6) (.rng1 (.op .min2 (.cons (.op .len (.cons (.var 4) .nil)) (.cons (.call c_law_take (.cons (.ref 0) (.cons (.op .add (.cons (.var 3) (.cons (.cst (.int 1)) .nil))) .nil))) .nil)))) (.cons (.append 5 (.tup (.cons (.pop 4 (.call c_law_take (.cons (.ref 0) (.cons (.op .len (.cons (.var 4) .nil)) .nil)))) (.cons (.call c_law_worth (.cons (.ref 0) .nil)) .nil))))
    .nil))
    (.cons (.ret (.var 5))
    .nil)))))
def f_law_family (c_law_choices c_law_take c_law_worth : Nat) : Fn := ⟨4, 7, [0, 1, 2, 3], b_law_family c_law_choices c_law_take c_law_worth⟩
def WorthS (P : Ro → FR) : Prop := ∀ l, PoolOk l → WpF (P [.lst l]) (fun v o => ∃ (w : Int) (l' : List PyData), v = .sh (.int w) ∧ o = [.lst l'] ∧ -1000000000000000000 ≤ w ∧ w ≤ 1000000000000000000 ∧ PoolOk l') noE
structure FamOk (m : Int) (s n : Nat) (F : List (List Int × Int)) : Prop where
  len : F.length ≤ n
  nd : (F.map (·.1)).Nodup
  lot : ∀ p ∈ F, p.1.length = s ∧ Rise m 0 p.1
  wor : ∀ p ∈ F, -1000000000000000000 ≤ p.2 ∧ p.2 ≤ 1000000000000000000
def FamS (P : Ro → FR) : Prop := ∀ (l : List PyData) (m : Int) (s n : Nat), PoolOk l → 0 ≤ m → m ≤ 23 → s ≤ 100 → n ≤ 1000 →
  WpF (P [.lst l, .sh (.int m), .sh (.int s), .sh (.int n)]) (fun v o => ∃ (F : List (List Int × Int)) (l' : List PyData), v = .lst (F.map encF) ∧ o = [.lst l', .sh (.int m), .sh (.int s), .sh (.int n)] ∧ FamOk m s n F ∧ PoolOk l') noE
theorem worth_ok {fu c : Nat} {Phi : Nat → Ro → FR} (hT : TakeS (Phi c)) : WorthS (runF fu Phi (f_law_worth c)) := by
  intro l hl
  refine wp_fn rfl rfl ?_
  unfold b_law_worth
  simp_arith
  refine (hT l 5 hl (by decide) (by decide)).to ?_
  rintro _ _ ⟨x, l1, rfl, rfl, hx, hl1⟩
  simp_arith
  have e18 : (10 : Int) ^ Int.toNat 18 = 1000000000000000000 := by decide
  refine ⟨fun h => ?_, fun h => ⟨fun h2 => ?_, fun h2 => ?_⟩⟩
  · refine (hT l1 5 hl1 (by decide) (by decide)).to ?_
    rintro _ _ ⟨y, l2, rfl, rfl, hy, hl2⟩
    simp_arith
    exact ⟨_, _, rfl, rfl, by omega, by omega, hl2⟩
  · refine (hT l1 200 hl1 (by decide) (by decide)).to ?_
    rintro _ _ ⟨y, l2, rfl, rfl, hy, hl2⟩
    simp_arith
    exact ⟨_, _, rfl, rfl, by omega, by omega, hl2⟩
  · rw [e18]
    refine (hT l1 _ hl1 (by decide) (by decide)).to ?_
    rintro _ _ ⟨y, l2, rfl, rfl, hy, hl2⟩
    simp_arith
    rw [e18]
    exact ⟨_, _, rfl, rfl, by omega, by omega, hl2⟩
theorem family_ok {fu c d e : Nat} {Phi : Nat → Ro → FR} (hC : ChsS (Phi c)) (hT : TakeS (Phi d)) (hW : WorthS (Phi e)) : FamS (runF fu Phi (f_law_family c d e)) := by
  intro l m s n hl h0 h1 h2 h3
  refine wp_fn rfl rfl ?_
  unfold b_law_family
  simp_arith
  refine (hC m s h0 h1 h2).to ?_
  rintro _ _ ⟨rfl, rfl⟩
  simp_arith
  refine (hT l _ hl (by omega) (by omega)).to ?_
  rintro _ _ ⟨x, l1, rfl, rfl, hx, hl1⟩
  simp_arith [pLenL]
  have hcs : (chs m s 0).length ≤ 8388608 := chs_small h1 s
  generalize hn : (if (x : Int) < ((chs m s 0).length : Int) then (x : Int) else ((chs m s 0).length : Int)).toNat = cnt
  have hcnt : cnt ≤ n ∧ cnt ≤ (chs m s 0).length := by
    split at hn <;> omega
  refine wp_rng (fun k q => ∃ x6 l' rest F, q = [.lst l', .sh (.int m), .sh (.int s), .sh (.int n), .lst (rest.map encT), .lst (F.map encF), x6] ∧ PoolOk l' ∧ F.length = k ∧ (rest ++ F.map (·.1)).Perm (chs m s 0) ∧ ∀ p ∈ F, -1000000000000000000 ≤ p.2 ∧ p.2 ≤ 1000000000000000000)
    ⟨_, l1, chs m s 0, [], rfl, hl1, rfl, by simp, by simp⟩ ?_ ?_
  · rintro k q hk ⟨x6, l', rest, F, rfl, hl', hF, hp, hw⟩
    have hlen := hp.length_eq
    rw [List.length_append, List.length_map] at hlen
    simp_arith [pLenL]
    refine (hT l' _ hl' (by omega) (by omega)).to ?_
    rintro _ _ ⟨y, l2, rfl, rfl, hy, hl2⟩
    have hy' : y < rest.length := by omega
    simp_arith [ixN_nat, map_at hy', List.length_map]
    refine (hW l2 hl2).to ?_
    rintro _ _ ⟨w, l3, rfl, rfl, hw1, hw2, hl3⟩
    simp_arith [map_erase]
    refine ⟨_, l3, rest.eraseIdx y, F ++ [(rest[y], w)], by rw [List.map_append]; rfl, hl3, by simp [hF], ?_, ?_⟩
    · rw [List.map_append, ← List.append_assoc]
      refine List.Perm.trans ?_ hp
      have h1 := erase_perm hy'
      refine (List.perm_append_singleton _ _).trans ?_
      exact (h1.append_right (F.map (·.1)))
    · intro p hp
      rcases List.mem_append.mp hp with h | h
      · exact hw p h
      · simp at h; subst h; exact ⟨hw1, hw2⟩
  · rintro q ⟨x6, l', rest, F, rfl, hl', hF, hp, hw⟩
    simp_arith
    have nd : (rest ++ F.map (·.1)).Nodup := hp.nodup_iff.mpr (chs_nodup s 0)
    refine ⟨F, l', rfl, rfl, ⟨by omega, (List.nodup_append.mp nd).2.1, fun p h => ?_, hw⟩, hl'⟩
    exact mem_chs.mp (hp.mem_iff.mp (List.mem_append.mpr (.inr (List.mem_map.mpr ⟨p, h, rfl⟩))))
end Lib
end

section
set_option Elab.async false
set_option linter.all false
set_option maxRecDepth 100000
set_option maxHeartbeats 1000000
namespace Lib
open PySem Ev Mc
def disj (t s : List Int) : Bool := t.all fun x => !s.contains x
def maxO : List Int → PyData
  | [] => .none
  | n :: ns => .int (ns.foldl max n)
def worths (F : List (List Int × Int)) (s : List Int) : List Int := (F.filter fun p => disj p.1 s).map (·.2)
end Lib
end

section
set_option Elab.async false
set_option linter.all false
set_option maxRecDepth 100000
set_option maxHeartbeats 1000000
namespace Lib
open PySem Ev Mc Md
theorem keysEq_int : ∀ a b : List Int, keysEq (a.map PyData.int) (b.map PyData.int) = decide (a = b)
  | [], [] => by simp [keysEq]
  | [], _ :: _ => by simp [keysEq]
  | _ :: _, [] => by simp [keysEq]
  | a :: l, b :: m => by
    simp only [List.map_cons, keysEq, key1eq, keysEq_int l m, List.cons.injEq]
    by_cases h : a = b <;> by_cases h2 : l = m <;> simp [h, h2]
theorem keq_T (a b : List Int) : keq (encT a) (encT b) = decide (a = b) := keysEq_int a b
theorem isKey_T (a : List Int) : isKey true (encT a) = true := by
  show (a.map PyData.int).all key1 = true
  simp [List.all_eq_true, key1]
structure TbOk (p : Int) (m k : Nat) (D : Tb) : Prop where
  nd : (D.map (·.1)).Nodup
  key : ∀ q ∈ D, q.1 ∈ chs (m : Int) k 0
  val : ∀ q ∈ D, 0 ≤ q.2 ∧ q.2 < p
theorem TbOk.len {p : Int} {m k : Nat} {D : Tb} (h : TbOk p m k D) (hm : m ≤ 23) : D.length ≤ 8388608 := by
  obtain ⟨rest, hr⟩ := Mf.sub_perm (M := D.map (·.1)) (L := chs (m : Int) k 0) h.nd (fun x hx => by
    obtain ⟨q, hq, rfl⟩ := List.mem_map.mp hx
    exact h.key q hq)
  have := hr.length_eq
  rw [List.length_append, List.length_map] at this
  have := chs_small (m := (m : Int)) (by omega) k
  omega
end Lib
end

section
set_option Elab.async false
set_option linter.all false
set_option maxRecDepth 100000
set_option maxHeartbeats 1000000
namespace Lib
open PySem Ev Mc
def b_is_rising (c_is_within : Nat) : CSs := ((.cons (.ite (.not (.op (.isi "tuple") (.cons (.var 1) .nil))) (.cons (.ret (.cst (.bool false)))
    .nil) .nil)
    (.cons (.set (.name 2) (.op .neg (.cons (.cst (.int 1)) .nil)))
    (.cons (.for_ (.name 3) (.seq (.var 1)) (.cons (.ite (.not (.call c_is_within (.cons (.var 3) (.cons (.op .add (.cons (.var 2) (.cons (.cst (.int 1)) .nil))) (.cons (.op .sub (.cons (.var 0) (.cons (.cst (.int 1)) .nil))) .nil))))) (.cons (.ret (.cst (.bool false)))
    .nil) .nil)
    (.cons (.set (.name 2) (.var 3))
    .nil)))
    (.cons (.ret (.cst (.bool true)))
    .nil)))))
def f_is_rising (c_is_within : Nat) : Fn := ⟨2, 4, [0, 1], b_is_rising c_is_within⟩
def b_is_lot (c_is_rising : Nat) : CSs := ((.cons (.ret (.and (.call c_is_rising (.cons (.ref 0) (.cons (.ref 2) .nil))) (.op .eq (.cons (.op .len (.cons (.var 2) .nil)) (.cons (.var 1) .nil)))))
    .nil))
def f_is_lot (c_is_rising : Nat) : Fn := ⟨3, 3, [0, 1, 2], b_is_lot c_is_rising⟩
def intOf : PyData → Int
  | .int n => n
  | _ => 0
def risL (m : Int) : Int → List PyData → Bool
  | _, [] => true
  | last, d :: ds => within d (last + 1) (m - 1) && risL m (intOf d) ds
def isRis (m : Int) (d : PyData) : Bool := match d with
  | .tuple ds => risL m (-1) ds
  | _ => false
def isLotD (m s : Int) (d : PyData) : Bool := match d with
  | .tuple ds => risL m (-1) ds && decide ((ds.length : Int) = s)
  | _ => false
structure okT (d : PyData) : Prop where
  ask : askD d = true
  its : ∀ ds, d = .tuple ds → ∀ x ∈ ds, askD x = true
def RisS (P : Ro → FR) : Prop := ∀ (m : Int) (d : PyData), okT d → WpF (P [.sh (.int m), .sh d]) (fun v o => v = .sh (.bool (isRis m d)) ∧ o = [.sh (.int m), .sh d]) noE
def LotS (P : Ro → FR) : Prop := ∀ (m s : Int) (d : PyData), okT d → WpF (P [.sh (.int m), .sh (.int s), .sh d]) (fun v o => v = .sh (.bool (isLotD m s d)) ∧ o = [.sh (.int m), .sh (.int s), .sh d]) noE
theorem ask_tup {d : PyData} (h : askD d = true) : (∃ ds, d = .tuple ds) ∨ (tyD d "tuple" = some false ∧ ∀ m s, isRis m d = false ∧ isLotD m s d = false) := by
  unfold askD at h
  split at h <;> first | (cases h; done) | (exact .inl ⟨_, rfl⟩) | (exact .inr ⟨rfl, fun _ _ => ⟨rfl, rfl⟩⟩)
theorem is_rising_ok {fu c : Nat} {Phi : Nat → Ro → FR} (hW : WiS (Phi c)) : RisS (runF fu Phi (f_is_rising c)) := by
  intro m d hd
  refine wp_fn rfl rfl ?_
  unfold b_is_rising
  rcases ask_tup hd.ask with ⟨ds, rfl⟩ | ⟨ht, hr⟩
  · simp_arith
    refine wp_turnsD (fun pre q => ∃ (last : Int) (x : Slot), q = [.sh (.int m), .sh (.tuple ds), .sh (.int last), x] ∧ ∀ post, risL m (-1) (pre ++ post) = risL m last post) ⟨-1, _, rfl, fun _ => rfl⟩ ?_ ?_
    · rintro pre x post q e ⟨last, x0, rfl, hi⟩
      simp_arith
      refine (hW x (last + 1) (m - 1) (hd.its ds rfl x (by rw [e]; simp))).to ?_
      rintro _ _ ⟨rfl, rfl⟩
      have hx : risL m (-1) ds = risL m last (x :: post) := by rw [e]; exact hi _
      simp_arith
      refine ⟨fun h => ?_, fun h => ?_⟩
      · have : isRis m (.tuple ds) = false := by
          show risL m (-1) ds = false
          rw [hx, risL, h, Bool.false_and]
        rw [this]
      · obtain ⟨n, rfl, h1, h2⟩ := within_int h
        refine ⟨n, _, rfl, fun p2 => ?_⟩
        rw [List.append_assoc, List.singleton_append, hi, risL, h, Bool.true_and]
        rfl
    · rintro q ⟨last, x0, rfl, hi⟩
      have : isRis m (.tuple ds) = true := by
        show risL m (-1) ds = true
        have := hi []
        rw [List.append_nil] at this
        rw [this, risL]
      simp_arith [this]
  · simp_arith [pIsi_of ht, (hr m 0).1]
theorem is_lot_ok {fu c : Nat} {Phi : Nat → Ro → FR} (hR : RisS (Phi c)) : LotS (runF fu Phi (f_is_lot c)) := by
  intro m s d hd
  refine wp_fn rfl rfl ?_
  unfold b_is_lot
  simp_arith
  refine (hR m d hd).to ?_
  rintro _ _ ⟨rfl, rfl⟩
  rcases ask_tup hd.ask with ⟨ds, rfl⟩ | ⟨ht, hr⟩
  · simp_arith
    refine ⟨fun h => ?_, fun h => ?_⟩
    · have h' : risL m (-1) ds = true := h
      have : isLotD m s (.tuple ds) = decide ((ds.length : Int) = s) := by show (risL m (-1) ds && _) = _; rw [h', Bool.true_and]
      simp_arith [this]
    · have h' : risL m (-1) ds = false := h
      have : isLotD m s (.tuple ds) = false := by show (risL m (-1) ds && _) = _; rw [h', Bool.false_and]
      rw [this]
  · simp_arith [(hr m s).1, (hr m s).2]
theorem risL_mem {m : Int} : ∀ {ds : List PyData} {last : Int}, -1 ≤ last → risL m last ds = true → ∀ x ∈ ds, ∃ n, x = .int n ∧ 0 ≤ n ∧ n < m
  | [], _, _, _, x, hx => by cases hx
  | d :: ds, last, hl, h, x, hx => by
    rw [risL, Bool.and_eq_true] at h
    obtain ⟨n, rfl, h1, h2⟩ := within_int h.1
    rcases List.mem_cons.mp hx with rfl | hx
    · exact ⟨n, rfl, by omega, by omega⟩
    · exact risL_mem (last := n) (by omega) h.2 x hx
theorem risL_iff {m : Int} : ∀ {ns : List Int} {last : Int}, (∀ n ∈ ns, 0 ≤ n ∧ n < m) → (risL m last (ns.map PyData.int) = true ↔ (∀ n ∈ ns.head?, last < n) ∧ ∀ k, k + 1 < ns.length → ns.getD k 0 < ns.getD (k + 1) 0)
  | [], last, _ => by simp [risL]
  | n :: ns, last, h => by
    have ih := risL_iff (ns := ns) (last := n) fun x hx => h x (by simp [hx])
    have hn := h n (by simp)
    rw [List.map_cons, risL, Bool.and_eq_true]
    show (within (.int n) (last + 1) (m - 1) = true ∧ risL m n (ns.map PyData.int) = true) ↔ _
    rw [ih]
    have hw : within (.int n) (last + 1) (m - 1) = true ↔ last < n := by
      unfold within
      simp only [Bool.and_eq_true, decide_eq_true_eq]
      omega
    rw [hw]
    simp only [List.head?_cons, Option.mem_some_iff, forall_eq', List.length_cons]
    refine and_congr_right fun _ => ⟨fun ⟨h1, h2⟩ k hk => ?_, fun h1 => ⟨fun a ha => ?_, fun k hk => ?_⟩⟩
    · cases k with
      | zero =>
        cases ns with
        | nil => simp at hk
        | cons a ns => simpa using h1 a (by simp)
      | succ k => simpa using h2 k (by omega)
    · cases ns with
      | nil => simp at ha
      | cons b ns =>
        have := h1 0 (by simp)
        simp only [List.head?_cons, Option.mem_some_iff] at ha
        subst ha
        simpa using this
    · have := h1 (k + 1) (by omega)
      simpa using this
theorem ints_of {P : Int → Prop} : ∀ {ds : List PyData}, (∀ x ∈ ds, ∃ n, x = .int n ∧ P n) → ∃ ns : List Int, ds = ns.map PyData.int ∧ ∀ n ∈ ns, P n
  | [], _ => ⟨[], rfl, fun _ h => nomatch h⟩
  | d :: ds, h => by
    obtain ⟨n, rfl, hn⟩ := h d (by simp)
    obtain ⟨ns, rfl, h2⟩ := ints_of (P := P) (ds := ds) fun x hx => h x (List.mem_cons_of_mem _ hx)
    refine ⟨n :: ns, rfl, fun k hk => ?_⟩
    rcases List.mem_cons.mp hk with rfl | hk
    · exact hn
    · exact h2 k hk
theorem okT_tup {ds : List PyData} (h : ∀ x ∈ ds, askD x = true) : okT (.tuple ds) := ⟨rfl, fun es e => by cases e; exact h⟩
theorem okT_flat {d : PyData} (h : askD d = true) (h2 : ∀ ds, d ≠ .tuple ds) : okT d := ⟨h, fun ds e => absurd e (h2 ds)⟩
end Lib
end

section
set_option Elab.async false
set_option linter.all false
set_option maxRecDepth 100000
set_option maxHeartbeats 1000000
namespace Lib
open PySem Ev Mc
structure okP (d : PyData) : Prop where
  ask : askD d = true
  two : ∀ a b, d = .tuple [a, b] → okT a ∧ okT b
def intsOf : PyData → List Int
  | .tuple ds => ds.map intOf
  | _ => []
def fstD : PyData → PyData
  | .tuple [a, _] => a
  | _ => .none
def lenU : PyData → Int
  | .tuple ds => ds.length
  | _ => 0
theorem ris_encT {m : Int} {d : PyData} (h : isRis m d = true) : d = encT (intsOf d) ∧ ∀ x ∈ intsOf d, 0 ≤ x ∧ x < m := by
  unfold isRis at h
  split at h
  · rename_i ds
    obtain ⟨ns, rfl, hn⟩ := ints_of (risL_mem (by omega) h)
    have e : (ns.map PyData.int).map intOf = ns := by rw [List.map_map]; exact List.map_id'' (fun _ => rfl) ns
    refine ⟨?_, ?_⟩
    · show _ = PyData.tuple (((ns.map PyData.int).map intOf).map PyData.int)
      rw [e]
    · show ∀ x ∈ (ns.map PyData.int).map intOf, _
      rw [e]; exact hn
  · cases h
theorem lot_ris {m s : Int} {d : PyData} (h : isLotD m s d = true) : isRis m d = true ∧ lenU d = s := by
  unfold isLotD at h
  split at h
  · rw [Bool.and_eq_true, decide_eq_true_eq] at h; exact h
  · cases h
end Lib
end

section
set_option Elab.async false
set_option linter.all false
set_option maxRecDepth 100000
set_option maxHeartbeats 1000000
namespace Lib
open PySem Ev Mc Md
theorem risL_rise {m : Int} : ∀ {t : List Int} {last : Int}, risL m last (t.map PyData.int) = true ↔ Rise m (last + 1) t
  | [], _ => by simp [risL, Rise]
  | x :: t, last => by
    have h : within (.int x) (last + 1) (m - 1) = true ↔ last + 1 ≤ x ∧ x < m := by
      simp only [within, Bool.and_eq_true, decide_eq_true_eq]; omega
    rw [List.map_cons, risL, Bool.and_eq_true, h, show intOf (.int x) = x from rfl, risL_rise, Rise, and_assoc]
theorem lot_rise {m s : Int} {t : List Int} : isLotD m s (encT t) = true ↔ (t.length : Int) = s ∧ Rise m 0 t := by
  show (risL m (-1) (t.map PyData.int) && decide (((t.map PyData.int).length : Int) = s)) = true ↔ _
  rw [Bool.and_eq_true, risL_rise, List.length_map, decide_eq_true_eq]
  exact and_comm
def linF (p : Int) (n : Nat) (t : List Int) : Nat → Int → Int := fun i c => (Md.ln p n (t.getD i 0)).getD c.toNat 0
def rowN (p : Int) (n : Nat) (t : List Int) : List Int := (chs (n : Int) t.length 0).map fun S => cd t.length (linF p n t) S % p
end Lib
end

section
set_option Elab.async false
set_option linter.all false
set_option maxRecDepth 100000
set_option maxHeartbeats 1000000
namespace Lib
open PySem Ev Mc
def toG (p : List Int × Int) : Int × List Int := (0 - p.2, p.1)
def ofG (g : Int × List Int) : List Int × Int := (g.2, 0 - g.1)
def ordF (F : List (List Int × Int)) : List (List Int × Int) := ((F.map toG).mergeSort leG).map ofG
end Lib
end

section
set_option Elab.async false
set_option linter.all false
set_option maxRecDepth 100000
set_option maxHeartbeats 1000000
namespace Lib
open PySem Ev Mc Md
def b_is_worthy (c_is_lot c_is_whole : Nat) : CSs := ((.cons (.ite (.or (.not (.op (.isi "tuple") (.cons (.var 2) .nil))) (.op .ne (.cons (.op .len (.cons (.var 2) .nil)) (.cons (.cst (.int 2)) .nil)))) (.cons (.ret (.cst (.bool false)))
    .nil) .nil)
    (.cons (.ret (.and (.call c_is_lot (.cons (.ref 0) (.cons (.ref 1) (.cons (.op .item (.cons (.var 2) (.cons (.cst (.int 0)) .nil))) .nil)))) (.call c_is_whole (.cons (.op .item (.cons (.var 2) (.cons (.cst (.int 1)) .nil))) .nil))))
    .nil)))
def f_is_worthy (c_is_lot c_is_whole : Nat) : Fn := ⟨3, 3, [0, 1, 2], b_is_worthy c_is_lot c_is_whole⟩
def b_look_at_family (c_is_worthy : Nat) : CSs := ((.cons (.ite (.or (.not (.op (.isi "list") (.cons (.var 2) .nil))) (.op .gt (.cons (.op .len (.cons (.var 2) .nil)) (.cons (.glob (Str.ofString "MOST_LOTS") (.int 200)) .nil)))) (.cons (.raise_ 14 "at" (.cons (.cst .none) .nil))
    .nil) .nil)
    (.cons (.set (.name 3) (.dnew true))
    (.cons (.for_ (.tup (.cons (.name 4) (.cons (.name 5) .nil))) (.prs false (.cons (.var 2) .nil)) (.cons (.ite (.or (.not (.call c_is_worthy (.cons (.ref 0) (.cons (.ref 1) (.cons (.var 5) .nil))))) (.op .in_ (.cons (.op .item (.cons (.var 5) (.cons (.cst (.int 0)) .nil))) (.cons (.var 3) .nil)))) (.cons (.raise_ 14 "at" (.cons (.var 4) .nil))
    .nil) .nil)
    (.cons (.setItem 3 (.op .item (.cons (.var 5) (.cons (.cst (.int 0)) .nil))) (.cst (.bool true)))
    .nil)))
    .nil))))
def f_look_at_family (c_is_worthy : Nat) : Fn := ⟨3, 6, [0, 1, 2], b_look_at_family c_is_worthy⟩
def seenD (pre : List (List Int)) : List (PyData × PyData) := pre.map fun t => (encT t, .bool true)
theorem lookD_seen (t : List Int) : ∀ pre : List (List Int), t ∉ pre → lookD (encT t) (seenD pre) = none
  | [], _ => rfl
  | a :: pre, h => by
    have h1 : a ≠ t := fun z => h (by rw [z]; simp)
    have h2 := lookD_seen t pre fun z => h (List.mem_cons_of_mem _ z)
    unfold seenD at h2 ⊢
    rw [List.map_cons, lookD, keq_T, decide_eq_false h1]
    exact h2
theorem putD_seen {t : List Int} {pre : List (List Int)} (h : t ∉ pre) : putD (encT t) (.bool true) (seenD pre) = seenD (pre ++ [t]) := by
  unfold putD
  rw [lookD_seen t pre h]
  show _ ++ _ = _
  unfold seenD
  rw [List.map_append]; rfl
def rowsF (p : Int) (n : Nat) (G : List (List Int × Int)) : List (List Int) := G.map fun q => rowN p n q.1
noncomputable def fewG (p : Int) (n N : Nat) (G : List (List Int × Int)) : List (List Int × Int) := (freeN p N (rowsF p n G)).map fun i => G.getD i ([], 0)
noncomputable def fewN (p : Int) (n N : Nat) (F : List (List Int × Int)) : List (List Int × Int) := fewG p n N (ordF F)
def FinS (P : Ro → FR) : Prop := ∀ (m z s : Nat) (p : Int) (F : List (List Int × Int)), m + s ≤ 9000 → z + s ≤ 20 → NextP ((m : Int) + (s : Int)) p → F.length ≤ 100000 → (∀ q ∈ F, q.1 ∈ chs (m : Int) z 0) → (chs ((z + s : Nat) : Int) z 0).length ≤ 100000 →
  WpF (P [.sh (.int m), .sh (.int z), .sh (.int s), .sh (.list (F.map encF))]) (fun v o => v = .lst ((fewN p (z + s) (chs ((z + s : Nat) : Int) z 0).length F).map encF) ∧ o = [.sh (.int m), .sh (.int z), .sh (.int s), .sh (.list (F.map encF))]) noE
end Lib
end

section
set_option Elab.async false
set_option linter.all false
set_option maxRecDepth 100000
set_option maxHeartbeats 2000000
namespace Lib
open PySem Ev Mc Md
def isWrtD (m z : Int) (d : PyData) : Bool := match d with
  | .tuple [a, b] => isLotD m z a && isW b
  | _ => false
structure okWd (d : PyData) : Prop where
  ask : askD d = true
  two : ∀ a b, d = .tuple [a, b] → okT a ∧ askD b = true
def WrBS (P : Ro → FR) : Prop := ∀ (m z : Int) (d : PyData), okWd d → WpF (P [.sh (.int m), .sh (.int z), .sh d]) (fun v o => v = .sh (.bool (isWrtD m z d)) ∧ o = [.sh (.int m), .sh (.int z), .sh d]) noE
theorem two_orW (ds : List PyData) : (∃ a b, ds = [a, b]) ∨ (((ds.length : Int) ≠ 2) ∧ ∀ m z, isWrtD m z (.tuple ds) = false) := by
  match ds with
  | [] => exact .inr ⟨by decide, fun _ _ => rfl⟩
  | [_] => exact .inr ⟨by simp only [List.length_cons, List.length_nil]; omega, fun _ _ => rfl⟩
  | [a, b] => exact .inl ⟨a, b, rfl⟩
  | _ :: _ :: _ :: r => exact .inr ⟨by simp only [List.length_cons]; omega, fun _ _ => rfl⟩
theorem is_worthy_all {fu lo wh : Nat} {Phi : Nat → Ro → FR} (hL : LotS (Phi lo)) (hW : WhS (Phi wh)) : WrBS (runF fu Phi (f_is_worthy lo wh)) := by
  intro m z d hd
  refine wp_fn rfl rfl ?_
  unfold b_is_worthy
  rcases ask_tup hd.ask with ⟨ds, rfl⟩ | ⟨ht, hr⟩
  · rcases two_orW ds with ⟨a, b, rfl⟩ | ⟨h2, hp⟩
    · obtain ⟨ha, hb⟩ := hd.two a b rfl
      simp_arith
      refine (hL m z a ha).to ?_
      rintro _ _ ⟨rfl, rfl⟩
      simp_arith
      refine ⟨fun h => ?_, fun h => ?_⟩
      · have : isWrtD m z (.tuple [a, b]) = isW b := by show (isLotD m z a && _) = _; rw [h, Bool.true_and]
        rw [this]
        refine (hW b hb).to ?_
        rintro _ _ ⟨rfl, rfl⟩
        simp_arith
      · have : isWrtD m z (.tuple [a, b]) = false := by show (isLotD m z a && _) = _; rw [h, Bool.false_and]
        rw [this]
    · have h2' : ((ds.length : Int) = 2) = False := eq_false h2
      simp_arith [h2', hp]
  · have : isWrtD m z d = false := by
      unfold isWrtD
      split
      · cases ht
      · rfl
    simp_arith [pIsi_of ht, this]
def famBad (m z : Int) : List (List Int) → Nat → List PyData → Option Nat
  | _, _, [] => none
  | seen, k, d :: ds => if (isWrtD m z d && !(seen.contains (intsOf (fstD d)))) = true then famBad m z (seen ++ [intsOf (fstD d)]) (k + 1) ds else some k
def famAt (m z : Int) (d : PyData) : Option PyData := match d with
  | .list ds => if 200 < ds.length then some .none else (famBad m z [] 0 ds).map fun k : Nat => PyData.int (k : Int)
  | _ => some .none
structure okFam (d : PyData) : Prop where
  ask : askD d = true
  its : ∀ ds, d = .list ds → ds.length ≤ 100000 ∧ ∀ x ∈ ds, okWd x
def LfbS (P : Ro → FR) : Prop := ∀ (m z : Int) (d : PyData), okFam d → WpF (P [.sh (.int m), .sh (.int z), .sh d]) (fun v o => v = .sh .none ∧ famAt m z d = none ∧ o = [.sh (.int m), .sh (.int z), .sh d])
  (fun c fs o => c = 14 ∧ (∃ a, famAt m z d = some a ∧ fs = [(.str (Str.ofString "at"), a)]) ∧ o = [.sh (.int m), .sh (.int z), .sh d])
theorem ask_listF {d : PyData} (h : askD d = true) : (∃ ds, d = .list ds) ∨ (tyD d "list" = some false ∧ ∀ m z, famAt m z d = some .none) := by
  unfold askD at h
  split at h <;> first | (cases h; done) | (exact .inl ⟨_, rfl⟩) | (exact .inr ⟨rfl, fun _ _ => rfl⟩)
def encDE (q : PyData × Nat) : PyData := .tuple [.int (q.2 : Int), q.1]
theorem asg_DE {i j : Nat} {p : PyData × Nat} {r : Ro} : asg (.tup (.cons (.name i) (.cons (.name j) .nil))) (encDE p) r = asgs (.cons (.name i) (.cons (.name j) .nil)) [.int (p.2 : Int), p.1] r := by simp only [encDE, asg]
theorem enum_DE : ∀ (l : List PyData) (k : Nat), enumL k l = (l.zipIdx k).map encDE
  | [], _ => rfl
  | a :: l, k => by rw [enumL, enum_DE l (k + 1)]; rfl
theorem prsDE {l : List PyData} (h : l.length ≤ 8388608) : prsI false [.list l] = some ((l.zipIdx 0).map encDE) := by
  show (if _ then _ else _) = _
  rw [if_pos (small_of (Nat.le_trans h (by decide))), enum_DE]
theorem wrt_of {m z : Int} {d : PyData} (h : isWrtD m z d = true) : ∃ b, d = .tuple [encT (intsOf (fstD d)), b] := by
  unfold isWrtD at h
  split at h
  · rename_i a b
    rw [Bool.and_eq_true] at h
    exact ⟨b, by show PyData.tuple [a, b] = .tuple [encT (intsOf a), b]; rw [← (ris_encT (lot_ris h.1).1).1]⟩
  · cases h
theorem look_seen (t : List Int) : ∀ S : List (List Int), (lookD (encT t) (seenD S)).isSome = S.contains t
  | [] => rfl
  | a :: S => by
    show (lookD (encT t) ((encT a, .bool true) :: seenD S)).isSome = _
    rw [lookD, keq_T]
    by_cases h : a = t
    · subst h
      rw [decide_eq_true rfl, if_pos rfl]; simp
    · rw [decide_eq_false h, if_neg (by decide), look_seen t S, List.contains_cons]
      have : (t == a) = false := by simpa using fun z => h z.symm
      rw [this, Bool.false_or]
theorem look_at_family_all {fu wo : Nat} {Phi : Nat → Ro → FR} (hW : WrBS (Phi wo)) : LfbS (runF fu Phi (f_look_at_family wo)) := by
  intro m z d hd
  refine wp_fn rfl rfl ?_
  unfold b_look_at_family
  rcases ask_listF hd.ask with ⟨ds, rfl⟩ | ⟨ht, hr⟩
  · obtain ⟨hdl, hds⟩ := hd.its ds rfl
    simp_arith [prsDE (show ds.length ≤ 8388608 by omega)]
    refine ⟨fun h => ⟨_, by show (if _ then _ else _) = _; rw [if_pos (by omega)], rfl⟩, fun h => ?_⟩
    have hfa : famAt m z (.list ds) = (famBad m z [] 0 ds).map fun k : Nat => PyData.int (k : Int) := by show (if _ then _ else _) = _; rw [if_neg (by omega)]
    rw [hfa]
    refine wp_turns encDE (fun pre q => ∃ (S : List (List Int)) (x4 x5 : Slot), q = [.sh (.int m), .sh (.int z), .sh (.list ds), .dct true (seenD S), x4, x5] ∧ S.length = pre.length ∧ ∀ post, famBad m z [] 0 (pre.map (·.1) ++ post) = famBad m z S pre.length post) (ds.zipIdx 0) ⟨[], _, _, rfl, rfl, fun _ => rfl⟩ ?_ ?_
    · rintro pre q post fr e ⟨S, x4, x5, rfl, hS, hi⟩
      have eF : ds = pre.map (·.1) ++ q.1 :: post.map (·.1) := by
        have := congrArg (List.map (·.1)) e
        rw [List.zipIdx_map_fst, List.map_append, List.map_cons] at this
        exact this
      have hl := congrArg List.length eF
      simp only [List.length_append, List.length_map, List.length_cons] at hl
      have hq2 : q.2 = pre.length := by
        have h1 : (ds.zipIdx 0)[pre.length]? = some q := by rw [e]; simp
        rw [List.getElem?_zipIdx] at h1
        obtain ⟨a, _, rfl⟩ := Option.map_eq_some_iff.mp h1
        simp
      have hq : q.1 ∈ ds := by rw [eF]; simp
      have hx : famBad m z [] 0 ds = famBad m z S pre.length (q.1 :: post.map (·.1)) := by rw [eF]; exact hi _
      have fin : (isWrtD m z q.1 && !(S.contains (intsOf (fstD q.1)))) = false → famBad m z [] 0 ds = some pre.length := fun hh => by rw [hx, famBad, if_neg (by rw [hh]; decide)]
      simp_arith [↓asg_DE]
      refine (hW m z q.1 (hds _ hq)).to ?_
      rintro _ _ ⟨rfl, rfl⟩
      simp_arith
      refine ⟨fun h2 => ?_, fun h2 => ?_⟩
      · rw [fin (by rw [h2, Bool.false_and]), hq2]
        exact ⟨_, rfl, rfl⟩
      · obtain ⟨b, eb⟩ := wrt_of h2
        generalize hf : intsOf (fstD q.1) = t at eb fin
        have it0 : pItem [q.1, .int 0] = some (.sh (encT t)) := by
          rw [eb, pItemU, atI_0]; rfl
        have ein : pIn [encT t, dictD true (seenD S)] = some (.sh (.bool (S.contains t))) := by
          show (if isKey true (encT t) = true then some (Slot.sh (.bool (lookD (encT t) (seenD S)).isSome)) else none) = _
          rw [isKey_T, if_pos rfl, look_seen]
        simp_arith [it0, ein]
        refine ⟨fun h3 => ?_, fun h3 => ?_⟩
        · rw [fin (by rw [h3]; simp), hq2]
          exact ⟨_, rfl, rfl⟩
        · have hno : t ∉ S := by simpa using h3
          have hsl : (seenD S).length < 16777216 := by unfold seenD; rw [List.length_map]; omega
          simp_arith [it0, isKey_T, putD_seen hno]
          refine ⟨S ++ [t], _, _, rfl, by simp [hS], fun post2 => ?_⟩
          rw [List.map_append, List.append_assoc, hi]
          show famBad m z S pre.length (q.1 :: post2) = _
          rw [famBad, if_pos (by rw [h2, hf, h3]; rfl), hf, List.length_append]
          rfl
    · rintro fr ⟨S, x4, x5, rfl, hS, hi⟩
      have h0 : famBad m z [] 0 ds = none := by
        have := hi []
        rw [List.append_nil, List.zipIdx_map_fst] at this
        rw [this]; rfl
      simp_arith [h0]
  · simp_arith [pIsi_of ht, hr]
    exact ⟨_, rfl, rfl⟩
end Lib
end

section
set_option Elab.async false
set_option linter.all false
set_option maxRecDepth 100000
set_option maxHeartbeats 1000000
namespace Lib
open PySem Ev Mc Md
def cN : Nat → Nat → Nat
  | _, 0 => 1
  | 0, _ + 1 => 0
  | n + 1, s + 1 => cN n s + cN n (s + 1)
theorem chs_cN : ∀ (s n : Nat) (m lo : Int), (m - lo).toNat = n → (chs m s lo).length = cN n s
  | 0, n, m, lo, _ => by cases n <;> rfl
  | s + 1, 0, m, lo, h => by
    show ((rng lo m).flatMap _).length = 0
    rw [rng_nil (by omega)]; rfl
  | s + 1, n + 1, m, lo, h => by
    have h1 := chs_cN s n m (lo + 1) (by omega)
    have h2 := chs_cN (s + 1) n m (lo + 1) (by omega)
    show ((rng lo m).flatMap fun x => (chs m s (x + 1)).map (x :: ·)).length = _
    rw [rng_cons (by omega), List.flatMap_cons, List.length_append, List.length_map, h1]
    rw [show ((rng (lo + 1) m).flatMap fun x => (chs m s (x + 1)).map (x :: ·)) = chs m (s + 1) (lo + 1) from rfl, h2]
    rfl
theorem cN_le : ∀ n, n ≤ 30 → ∀ s, s ≤ 8 → cN n s ≤ 8388608 := by decide +kernel
theorem chs_8m {m : Int} {s : Nat} (h : m ≤ 30) (hs : s ≤ 8) : (chs m s 0).length ≤ 8388608 := by
  rw [chs_cN s _ m 0 rfl]
  exact cN_le _ (by omega) s hs
def ChwS (N : Nat) (P : Ro → FR) : Prop := ∀ (m s : Nat), s ≤ N → m ≤ 30 → WpF (P [.sh (.int m), .sh (.int s)]) (fun v o => v = .lst ((chs (m : Int) s 0).map encT) ∧ o = [.sh (.int m), .sh (.int s)]) noE
end Lib
end

section
set_option Elab.async false
set_option linter.all false
set_option maxRecDepth 100000
set_option maxHeartbeats 1000000
namespace Lib
open PySem Ev Mc
def RightS (P : Ro → FR) : Prop := ∀ l, PoolOk l → WpF (P [.lst l]) (fun v o => v = .sh (.bool true) ∧ ∃ x, o = [x]) noE
def LawS (P : Ro → FR) : Prop := ∀ ns : List Int, ns.length ≤ 63 → WpF (P [.sh (scrD ns)]) (fun v o => v = .sh (.bool true)) noE
end Lib
end

section
set_option Elab.async false
set_option linter.all false
set_option maxRecDepth 100000
set_option maxHeartbeats 1000000
namespace Lib
open PySem Ev Mc Md
theorem lot_chs {m z : Nat} {t : List Int} (h : t ∈ chs (m : Int) z 0) : isLotD m z (encT t) = true := by
  have := mem_chs.mp h
  exact lot_rise.mpr ⟨by rw [this.1], this.2⟩
end Lib
end

section
set_option maxHeartbeats 8000000
set_option Elab.async false
set_option linter.all false
set_option maxRecDepth 100000
namespace Lib
open PySem Ev
mutual
def wt : PyData → Nat
  | .none => 4
  | .bool _ => 5
  | .int _ => 1921
  | .str s => (reprText s).length
  | .list ds => wtAll ds + 3
  | .tuple ds => wtAll ds + 3
  | .dict _ => 0
def wtAll : List PyData → Nat
  | [] => 0
  | d :: ds => wt d + 2 + wtAll ds
end
theorem textFrom_le : ∀ (ts : List Str) (k : Nat) (acc : Str), (textFrom k acc ts).length ≤ acc.length + (ts.map fun t => t.length + 2).sum
  | [], k, acc => by simp [textFrom]
  | t :: r, k, acc => by
    have ih := textFrom_le r (k + 1) (acc ++ (if k > 0 then ", " else "" : String) ++ t)
    have e : (acc ++ (if k > 0 then ", " else "" : String) ++ t).length = acc.length + (if k > 0 then 2 else 0) + t.length := by
      rw [strLen_append, strLen_append]
      split <;> rfl
    rw [e] at ih
    simp only [List.map_cons, List.sum_cons]
    refine Nat.le_trans ih ?_
    split <;> omega
theorem listText_le (ts : List Str) : (listText ts).length ≤ (ts.map fun t => t.length + 2).sum + 3 := by
  unfold listText
  rw [strLen_append]
  have := textFrom_le ts 0 "["
  have e1 : (("[" : String) : Str).length = 1 := rfl
  have e2 : (("]" : String) : Str).length = 1 := rfl
  omega
theorem join_le (ts : List Str) : (Str.join ", " ts).length ≤ (ts.map fun t => t.length + 2).sum := by
  match ts with
  | [] => exact Nat.zero_le _
  | [x] => show x.length ≤ _; simp
  | x :: y :: r =>
    have ih := join_le (y :: r)
    show (x ++ ", " ++ Str.join ", " (y :: r)).length ≤ _
    rw [strLen_append, strLen_append]
    have e2 : ((", " : String) : Str).length = 2 := rfl
    rw [List.map_cons, List.sum_cons]
    omega
theorem tupleText_le (ts : List Str) : (tupleText ts).length ≤ (ts.map fun t => t.length + 2).sum + 3 := by
  unfold tupleText
  rw [strLen_append, strLen_append]
  have h := join_le ts
  have e1 : (("(" : String) : Str).length = 1 := rfl
  have e2 : ((",)" : String) : Str).length = 2 := rfl
  have e3 : ((")" : String) : Str).length = 1 := rfl
  split <;> omega
mutual
theorem shown_le : ∀ d : PyData, d.canLay0 = true → d.showable = true → d.shown.length ≤ wt d
  | .none, _, _ => by simp only [PyData.shown, wt]; decide +kernel
  | .bool b, _, _ => by cases b <;> (simp only [PyData.shown, wt]; decide +kernel)
  | .int i, _, h => by
    simp only [PyData.shown, wt]
    exact PyProof.Rows.int_text_len_1921 (by simpa [PyData.showable] using h)
  | .str s, _, _ => by simp only [PyData.shown, wt]; exact Nat.le_refl _
  | .list ds, c, h => by
    simp only [PyData.shown, wt]
    have := shownAll_le ds (by simpa [PyData.canLay0] using c) (by simpa [PyData.showable] using h)
    have h2 := listText_le (PyData.shownAll ds)
    omega
  | .tuple ds, c, h => by
    simp only [PyData.shown, wt]
    have := shownAll_le ds (by simpa [PyData.canLay0] using c) (by simpa [PyData.showable] using h)
    have h2 := tupleText_le (PyData.shownAll ds)
    omega
  | .dict _, c, _ => by simp [PyData.canLay0] at c
theorem shownAll_le : ∀ ds : List PyData, PyData.canLayAll0 ds = true → PyData.showableAll ds = true → ((PyData.shownAll ds).map fun t => t.length + 2).sum ≤ wtAll ds
  | [], _, _ => by simp [PyData.shownAll, wtAll]
  | d :: ds, c, h => by
    simp only [PyData.canLayAll0, Bool.and_eq_true] at c
    simp only [PyData.showableAll, Bool.and_eq_true] at h
    have h1 := shown_le d c.1 h.1
    have h2 := shownAll_le ds c.2 h.2
    simp only [PyData.shownAll, wtAll, List.map_cons, List.sum_cons]
    omega
end
structure rp (N k : Nat) (d : PyData) : Prop where
  lay : d.canLay0 = true
  dep : d.depth ≤ k
  shw : d.showable = true
  len : wt d ≤ N
theorem rp.mono {N k N' k' : Nat} {d : PyData} (h : rp N k d) (h1 : N ≤ N') (h2 : k ≤ k') : rp N' k' d := ⟨h.lay, Nat.le_trans h.dep h2, h.shw, Nat.le_trans h.len h1⟩
theorem rp.shp {N k : Nat} {d : PyData} (h : rp N k d) (hk : k ≤ 64) : Ev.shp d = true := shp_of h.lay h.dep hk
theorem rp.repr {N k : Nat} {d : PyData} (h : rp N k d) (hk : k ≤ 64) (hN : N ≤ 16777216) : pRepr [d] = some (.sh (.str d.shown)) := by
  show (if (Ev.shp d && d.showable && small d.shown.length) = true then _ else _) = _
  rw [if_pos]
  rw [h.shp hk, h.shw, small_of (Nat.le_trans (shown_le d h.lay h.shw) (Nat.le_trans h.len hN))]
  rfl
theorem rp_none : rp 4 0 .none := ⟨rfl, by simp [PyData.depth], rfl, by simp [wt]⟩
theorem rp_bool (b : Bool) : rp 5 0 (.bool b) := ⟨rfl, by simp [PyData.depth], rfl, by simp [wt]⟩
theorem rp_int {i : Int} (h : i.natAbs.log2 < 1920) : rp 1921 0 (.int i) := ⟨lay_int i, depth_int i, by simp [PyData.showable, h], by simp [wt]⟩
theorem rp_small {i : Int} (h : i.natAbs < 18446744073709551616) : rp 1921 0 (.int i) := rp_int (log2_small h)
theorem rp_str (s : Str) (h : PyData.strOk s = true) : rp (reprText s).length 0 (.str s) := ⟨by simpa [PyData.canLay0] using h, by simp [PyData.depth], rfl, by simp [wt]⟩
theorem rp_all {N k : Nat} : ∀ {ds : List PyData}, (∀ x ∈ ds, rp N k x) → PyData.canLayAll0 ds = true ∧ PyData.depthAll ds ≤ k ∧ PyData.showableAll ds = true ∧ wtAll ds ≤ ds.length * (N + 2)
  | [], _ => ⟨rfl, by simp [PyData.depthAll], rfl, by simp [wtAll]⟩
  | d :: ds, h => by
    have h1 := h d (by simp)
    obtain ⟨a, b, c, e⟩ := rp_all fun x hx => h x (List.mem_cons_of_mem d hx)
    refine ⟨by simp [PyData.canLayAll0, h1.lay, a], ?_, by simp [PyData.showableAll, h1.shw, c], ?_⟩
    · simp only [PyData.depthAll]; have := h1.dep; omega
    · simp only [wtAll, List.length_cons, Nat.add_mul, Nat.one_mul]; have := h1.len; omega
theorem rp_tuple {N k L : Nat} {ds : List PyData} (h : ∀ x ∈ ds, rp N k x) (hl : ds.length ≤ L) : rp (L * (N + 2) + 3) (k + 1) (.tuple ds) := by
  obtain ⟨a, b, c, e⟩ := rp_all h
  have := Nat.mul_le_mul_right (N + 2) hl
  exact ⟨by simpa [PyData.canLay0] using a, by simp only [PyData.depth]; omega, by simpa [PyData.showable] using c, by simp only [wt]; omega⟩
theorem rp_list {N k L : Nat} {ds : List PyData} (h : ∀ x ∈ ds, rp N k x) (hl : ds.length ≤ L) : rp (L * (N + 2) + 3) (k + 1) (.list ds) := by
  obtain ⟨a, b, c, e⟩ := rp_all h
  have := Nat.mul_le_mul_right (N + 2) hl
  exact ⟨by simpa [PyData.canLay0] using a, by simp only [PyData.depth]; omega, by simpa [PyData.showable] using c, by simp only [wt]; omega⟩
theorem rp_encT {t : List Int} {L : Nat} (h : ∀ x ∈ t, x.natAbs < 18446744073709551616) (hl : t.length ≤ L) : rp (L * 1923 + 3) 1 (encT t) := by
  refine rp_tuple (N := 1921) (k := 0) (fun x hx => ?_) (by simpa using hl)
  obtain ⟨n, hn, rfl⟩ := List.mem_map.mp hx
  exact rp_small (h n hn)
theorem repr_d : pRepr [dictD true []] = some (.sh (.str (Str.ofString "{}"))) := by
  have h0 : Ev.shp (dictD true []) = false := by decide +kernel
  unfold pRepr
  simp only [h0, Bool.false_and, Bool.false_eq_true, if_false]
  rfl
end Lib
end

section
set_option Elab.async false
set_option linter.all false
set_option maxRecDepth 100000
set_option maxHeartbeats 2000000
namespace Lib
open PySem Ev Mc
theorem ask_int {d : PyData} (h : askD d = true) : (∃ n, d = .int n) ∨ (∃ b c : Bool, tyD d "int" = some b ∧ tyD d "bool" = some c ∧ (b = false ∨ c = true) ∧ isW d = false) := by
  unfold askD at h
  split at h <;> first | (cases h; done) | (exact .inl ⟨_, rfl⟩) | (exact .inr ⟨_, _, rfl, rfl, .inl rfl, rfl⟩) | (exact .inr ⟨_, _, rfl, rfl, .inr rfl, rfl⟩)
def lenT (d : PyData) : Prop := ∀ ds, d = .tuple ds → ds.length ≤ 100000
structure P1 (d : PyData) : Prop where
  ok : okP d
  len : ∀ a b, d = .tuple [a, b] → lenT a ∧ lenT b
  rep : rp 600000 2 d
end Lib
end

section
set_option Elab.async false
set_option linter.all false
set_option maxRecDepth 100000
set_option maxHeartbeats 2000000
namespace Lib
open PySem Ev Mc Md
def gO : List Int → Option Int
  | [] => none
  | n :: ns => some (ns.foldl max n)
end Lib
end

section
set_option Elab.async false
set_option linter.all false
set_option maxRecDepth 100000
set_option maxHeartbeats 1000000
namespace Lib
open PySem Ev Mc Md
theorem disj_iff {t s : List Int} : disj t s = true ↔ ∀ x ∈ t, x ∉ s := by
  unfold disj
  rw [List.all_eq_true]
  refine ⟨fun h x hx hs => ?_, fun h x hx => ?_⟩
  · have := h x hx
    simp [hs] at this
  · have := h x hx
    simp [this]
end Lib
end

section
set_option Elab.async false
set_option linter.all false
set_option maxRecDepth 100000
set_option maxHeartbeats 2000000
namespace Lib
open PySem Ev Mc Md
def outs (F few : List (List Int × Int)) : List (List Int × Int) := (F.mergeSort leF).filter fun q => !decide (q ∈ few)
end Lib
end

section
set_option Elab.async false
set_option linter.all false
set_option maxRecDepth 100000
set_option maxHeartbeats 2000000
namespace Lib
open PySem Ev Mc Md
def isB (R : List (List Int × Int)) (g : List Int) (q : List Int × Int) : Bool := decide (PyData.eqv (.int q.2) (maxO (worths R g)) = true) && disj q.1 g
end Lib
end

section
set_option Elab.async false
set_option linter.all false
set_option maxRecDepth 100000
set_option maxHeartbeats 2000000
namespace Ev
open PySem
section
variable {fu : Nat} {Phi : Nat → Ro → FR} {Q : Fl → Ro → Prop} {E : XP} {r : Ro}
def eTryS (fu : Nat) (Phi : Nat → Ro → FR) (cs : List Nat) (i : Nat) (ss : CSs) (Q : Fl → Ro → Prop) (E : XP) : XP := fun c fs r =>
  (c ∈ cs → i < r.length ∧ Wp (exs fu Phi ss (r.set i (.sh (excD c fs)))) (fun f q => Q f (q.set i .non)) noE) ∧ (c ∉ cs → E c fs r)
theorem wp_tryS {b : CSs} {cs : List Nat} {i : Nat} {ss : CSs} : Wp (ex fu Phi (.tryS b cs i ss) r) Q E ↔ Wp (exs fu Phi b r) Q (eTryS fu Phi cs i ss Q E) := by
  simp only [ex]
  cases exs fu Phi b r with
  | ok f r1 => simp only [wp_ok]
  | bad => simp only [wp_bad]
  | ex c fs r1 =>
    simp only [wp_ex, eTryS]
    by_cases h : c ∈ cs
    · simp only [h, decide_true, if_true, true_implies, not_true_eq_false, false_implies, and_true]
      by_cases hl : i < r1.length
      · simp only [hl, decide_true, if_true, true_and]
        cases exs fu Phi ss (r1.set i (.sh (excD c fs))) with
        | ok f r2 => simp only [wp_ok]
        | bad => simp only [wp_bad]
        | ex _ _ _ => simp only [wp_bad, wp_ex, noE]
      · simp only [hl, decide_false, Bool.false_eq_true, if_false, wp_bad, false_and]
    · simp only [h, decide_false, Bool.false_eq_true, if_false, wp_ex, false_implies, true_and, not_false_eq_true, true_implies]
end
end Ev
end

section
set_option Elab.async false
set_option linter.all false
set_option maxRecDepth 100000
set_option maxHeartbeats 2000000
namespace Lib
open PySem Ev
theorem tl_neg {i : Int} (h : i < 0) : TL.tl (PyData.shown (.int i)) = 45 :: TL.numL (-i).toNat := by
  show TL.tl (Str.ofString (toString i)) = _
  have e : List.map Char.toNat (toString ((((-i).toNat : Nat)) : Int)).toList = TL.numL (-i).toNat := by
    rw [← TL.tl_ofString]; exact TL.tl_num _
  rw [PyProof.Rows.toString_neg h, TL.tl_ofString, String.toList_append, List.map_append, show (0 - i) = (((-i).toNat : Nat) : Int) by omega, e]
  rfl
end Lib
end

section
set_option Elab.async false
set_option linter.all false
set_option maxRecDepth 100000
set_option maxHeartbeats 2000000
namespace Lib
open PySem Ev Mc
abbrev tC : Str := Str.ofString ":"
abbrev tS : Str := Str.ofString "; "
def sg (c : Nat) : PyData := .str ⟨#[c]⟩
theorem sl1 {z : Str} (h : z.length ≤ 16777216) : pSl true false [.str z, .int 1] = some (.sh (.str (L2.cutS z (some 1) none))) := by
  show cutP (.str z) (some 1) none = _
  show (if small z.length = true then some (Slot.sh (.str (L2.cutS z (some 1) none))) else none) = _
  rw [if_pos (small_of h)]
end Lib
end

section
set_option Elab.async false
set_option linter.all false
set_option maxRecDepth 100000
set_option maxHeartbeats 2000000
namespace Lib
open PySem Ev Mc Md
abbrev Prs := List (List Int × Int)
end Lib
end

section
set_option Elab.async false
set_option linter.all false
set_option maxRecDepth 100000
set_option maxHeartbeats 1000000
namespace Lib
open PySem Ev Mc Md
structure Dr (m : Nat) (t : List Int) : Prop where
  ris : t.Pairwise (· < ·)
  bd : ∀ x ∈ t, 0 ≤ x ∧ x < m
theorem Dr.nd {m : Nat} {t : List Int} (h : Dr m t) : t.Nodup := h.ris.imp fun {a b} h z => by omega
theorem Dr.isRis {m : Nat} {t : List Int} (h : Dr m t) : isRis m (encT t) = true := by
  show risL m (-1) (t.map PyData.int) = true
  refine (risL_iff h.bd).mpr ⟨fun n hn => ?_, fun k hk => ?_⟩
  · have := h.bd n (List.mem_of_mem_head? hn); omega
  · have := List.pairwise_iff_getElem.mp h.ris k (k + 1) (by omega) hk (by omega)
    rw [List.getD_eq_getElem?_getD, List.getD_eq_getElem?_getD, List.getElem?_eq_getElem (by omega), List.getElem?_eq_getElem hk]
    exact this
theorem rise_of : ∀ {t : List Int} {m lo : Int}, t.Pairwise (· < ·) → (∀ x ∈ t, lo ≤ x ∧ x < m) → Rise m lo t
  | [], _, _, _, _ => True.intro
  | x :: t, m, lo, h, hb => by
    obtain ⟨h1, h2⟩ := List.pairwise_cons.mp h
    have hx := hb x (by simp)
    exact ⟨hx.1, hx.2, rise_of h2 fun y hy => ⟨by have := h1 y hy; omega, (hb y (List.mem_cons_of_mem _ hy)).2⟩⟩
theorem Dr.chs {m z : Nat} {t : List Int} (h : Dr m t) (hz : t.length = z) : t ∈ chs (m : Int) z 0 := mem_chs.mpr ⟨hz, rise_of h.ris h.bd⟩
structure Prt (m z st : Nat) (R : List (List Int × List Int)) : Prop where
  pw : R.Pairwise fun a b => disj a.1 b.2 = false
  own : ∀ a ∈ R, disj a.1 a.2 = true
  one : ∀ p ∈ R, Dr m p.1 ∧ Dr m p.2 ∧ p.1.length = z ∧ p.2.length ≤ st
theorem Prt.nil {m z st : Nat} : Prt m z st [] := ⟨.nil, by simp, by simp⟩
theorem Prt.sub {m z st : Nat} {R S : List (List Int × List Int)} (h : Prt m z st R) (hs : S.Sublist R) : Prt m z st S := ⟨h.pw.sublist hs, fun a ha => h.own a (hs.subset ha), fun a ha => h.one a (hs.subset ha)⟩
end Lib
end

section
set_option Elab.async false
set_option linter.all false
set_option maxRecDepth 100000
set_option maxHeartbeats 2000000
namespace Lib
open PySem Ev Mc Md
def intT (i : Int) : Str := Str.ofString (toString i)
theorem intT_nat (n : Nat) : TL.tl (intT (n : Int)) = TL.numL n := TL.tl_num n
theorem intT_neg {i : Int} (h : i < 0) : TL.tl (intT i) = 45 :: TL.numL (-i).toNat := tl_neg h
theorem p1020 : (10 : Nat) ^ 20 = 100000000000000000000 := by decide
theorem len_int {w : Int} (h : w.natAbs < 100000000000000000000) : (intT w).length ≤ 21 := by
  rw [TL.len_tl]
  rcases Int.lt_or_le w 0 with hw | hw
  · rw [intT_neg hw, List.length_cons]
    have := TL.numL_len (n := (-w).toNat) (k := 20) (by decide) (by rw [p1020]; omega)
    omega
  · obtain ⟨n, rfl⟩ := Int.eq_ofNat_of_zero_le hw
    rw [intT_nat]
    have := TL.numL_len (n := n) (k := 20) (by decide) (by rw [p1020]; omega)
    omega
theorem int_free {w : Int} {s : Nat} (h : s < 48 ∨ 57 < s) (h2 : s ≠ 45) : s ∉ TL.tl (intT w) := by
  rcases Int.lt_or_le w 0 with hw | hw
  · rw [intT_neg hw, List.mem_cons, not_or]
    exact ⟨h2, TL.numL_free h⟩
  · obtain ⟨n, rfl⟩ := Int.eq_ofNat_of_zero_le hw
    rw [intT_nat]
    exact TL.numL_free h
theorem pStrI {i : Int} (h : i.natAbs < 100000000000000000000) : pStr [.int i] = some (.sh (.str (intT i))) := by
  show (if decide (i.natAbs.log2 < 1920) = true then some (Slot.sh (.str (Str.ofString (toString i)))) else none) = _
  have : i.natAbs.log2 < 1920 := by
    have h2 : i.natAbs < 18446744073709551616 * 18446744073709551616 := by omega
    by_cases h0 : i.natAbs = 0
    · rw [h0]; decide
    · have h3 : 2 ^ i.natAbs.log2 ≤ i.natAbs := Nat.log2_self_le h0
      refine Classical.byContradiction fun hc => ?_
      have h4 : 2 ^ 128 ≤ 2 ^ i.natAbs.log2 := Nat.pow_le_pow_right (by decide) (by omega)
      have h5 : (2 : Nat) ^ 128 = 18446744073709551616 * 18446744073709551616 := by decide
      omega
  rw [if_pos (decide_eq_true this)]; rfl
end Lib
end

section
set_option Elab.async false
set_option linter.all false
set_option maxRecDepth 100000
set_option maxHeartbeats 2000000
namespace Lib
open PySem Ev Mc Md
structure FamW (n z : Nat) (F : List (List Int × Int)) : Prop where
  len : F.length ≤ 5
  lot : ∀ q ∈ F, isLotD n z (encT q.1) = true
  nd : (F.map (·.1)).Nodup
  plen : ∀ q ∈ F, q.1.length = z ∧ ∀ x ∈ q.1, 0 ≤ x ∧ x < n
  wor : ∀ q ∈ F, 0 ≤ q.2 ∧ q.2 < 100
theorem bad_app {m z : Int} : ∀ {F : List (List Int × Int)} {S : List (List Int)} {k : Nat} {ds : List PyData}, (∀ q ∈ F, isLotD m z (encT q.1) = true) → (F.map (·.1)).Nodup → (∀ q ∈ F, q.1 ∉ S) → famBad m z S k (F.map encF ++ ds) = famBad m z (S ++ F.map (·.1)) (k + F.length) ds
  | [], S, k, ds, _, _, _ => by simp
  | p :: F, S, k, ds, h1, h2, h3 => by
    have hp : isWrtD m z (encF p) = true := by show (isLotD m z (encT p.1) && true) = true; rw [h1 p (by simp)]; rfl
    have hi : intsOf (fstD (encF p)) = p.1 := by
      show (p.1.map PyData.int).map intOf = p.1
      rw [List.map_map]; exact List.map_id'' (fun _ => rfl) _
    have hc : S.contains p.1 = false := by simpa using h3 p (by simp)
    rw [List.map_cons, List.nodup_cons] at h2
    rw [List.map_cons, List.cons_append, famBad, if_pos (by rw [hp, hi, hc]; rfl), hi, bad_app (fun q hq => h1 q (by simp [hq])) h2.2 (fun q hq => by
      rw [List.mem_append, List.mem_singleton]
      rintro (h | h)
      · exact h3 q (by simp [hq]) h
      · exact h2.1 (List.mem_map.mpr ⟨q, hq, h⟩)), List.map_cons, List.length_cons, List.append_assoc, List.singleton_append]
    congr 1
    omega
theorem FamW.bad {n z : Nat} {F : List (List Int × Int)} (h : FamW n z F) (ds : List PyData) : famBad n z [] 0 (F.map encF ++ ds) = famBad n z (F.map (·.1)) F.length ds := by
  rw [bad_app h.lot h.nd (by simp), List.nil_append, Nat.zero_add]
theorem FamW.at' {n z : Nat} {F : List (List Int × Int)} (h : FamW n z F) {ds : List PyData} (hl : ds.length ≤ 10) : famAt n z (.list (F.map encF ++ ds)) = (famBad n z (F.map (·.1)) F.length ds).map fun k : Nat => PyData.int (k : Int) := by
  have := h.len
  show (if _ then _ else _) = _
  rw [if_neg (by simp; omega), h.bad]
theorem FamW.good {n z : Nat} {F : List (List Int × Int)} (h : FamW n z F) : famAt n z (.list (F.map encF)) = none := by
  have := h.at' (ds := []) (by simp)
  rw [List.append_nil] at this
  rw [this]; rfl
theorem at_of {L : List PyData} {Q : PyData → Prop} (h : ∀ d ∈ L, Q d) {y : Nat} (hy : y < L.length) : ∃ d, L2.atI L (y : Int) = some d ∧ Q d := by
  rw [atI_nat hy, List.getElem?_eq_getElem hy]
  exact ⟨_, rfl, h _ (List.getElem_mem hy)⟩
theorem fam_of {n z : Nat} {F : List (List Int × Int)} (hl : F.length ≤ 200) (h : ∀ q ∈ F, isLotD n z (encT q.1) = true) (hn : (F.map (·.1)).Nodup) : famAt n z (.list (F.map encF)) = none := by
  show (if _ then _ else _) = _
  rw [if_neg (by simp; omega)]
  have := bad_app (m := n) (z := z) (S := []) (k := 0) (ds := []) h hn (by simp)
  rw [List.append_nil] at this
  rw [this]; rfl
end Lib
end

section
set_option Elab.async false
set_option linter.all false
set_option maxRecDepth 100000
set_option maxHeartbeats 2000000
namespace Lib
open PySem Ev Mc Md
section
variable {α : Type} (e : α → PyData)
def wA (U : List (List Int × α)) : List (PyData × PyData) := U.map fun q => (encT q.1, e q.2)
end
abbrev Way := Int × List PyData
abbrev Row := List Int × Way
structure PutR (U : List Row) (t : List Int) (x : Way) (U' : List Row) : Prop where
  nd : (U'.map (·.1)).Nodup
  mem : ∀ q ∈ U', q ∈ U ∨ q = (t, x)
  up : ∀ q ∈ U, ∃ q' ∈ U', q'.1 = q.1 ∧ q.2.1 ≤ q'.2.1
  has : ∃ q' ∈ U', q'.1 = t ∧ x.1 ≤ q'.2.1
theorem PutR.len {U U' : List Row} {t : List Int} {x : Way} (h : PutR U t x U') : U'.length ≤ U.length + 1 := by
  have := nodup_le (l := U'.map (·.1)) (m := t :: U.map (·.1)) h.nd fun y hy => by
    obtain ⟨q, hq, rfl⟩ := List.mem_map.mp hy
    rcases h.mem q hq with h | rfl
    · exact List.mem_cons_of_mem _ (List.mem_map.mpr ⟨q, h, rfl⟩)
    · simp
  rw [List.length_map, List.length_cons, List.length_map] at this
  exact this
end Lib
end

section
set_option Elab.async false
set_option linter.all false
set_option maxRecDepth 100000
set_option maxHeartbeats 2000000
namespace Lib
open PySem Ev Mc Md
def PlcOk (z : Nat) (w : List PyData) : Prop := ∃ l : List (List Int), w = l.map encT ∧ l.length = z ∧ ∀ t ∈ l, ∃ a b : Int, t = [a, b]
structure RowOk (n z : Nat) (r : Row) : Prop where
  lot : r.1 ∈ chs (n : Int) z 0
  plc : PlcOk z r.2.2
structure MadeOk (n z : Nat) (U : List Row) : Prop where
  nd : (U.map (·.1)).Nodup
  row : ∀ r ∈ U, RowOk n z r
theorem chs12 : ∀ n, n ≤ 12 → ∀ z, z ≤ 8 → (chs ((n : Nat) : Int) z 0).length ≤ 1000 := by decide +kernel
theorem MadeOk.len {n z : Nat} {U : List Row} (h : MadeOk n z U) (hn : n ≤ 12) (hz : z ≤ 8) : U.length ≤ 1000 := by
  have h1 := nodup_le (l := U.map (·.1)) (m := chs (n : Int) z 0) h.nd fun x hx => by
    obtain ⟨r, hr, rfl⟩ := List.mem_map.mp hx
    exact (h.row r hr).lot
  rw [List.length_map] at h1
  exact Nat.le_trans h1 (chs12 n hn z hz)
abbrev Tree := List (Int × List Row)
structure TreeOk (n z : Nat) (T : Tree) : Prop where
  key : T.map (·.1) = (List.range n).map fun (k : Nat) => (k : Int)
  row : ∀ q ∈ T, q.2.length ≤ 1000 ∧ ∀ r ∈ q.2, RowOk n z r
theorem range_nd (n : Nat) : ((List.range n).map fun (k : Nat) => (k : Int)).Nodup := by
  simp only [List.Nodup, List.pairwise_map]
  exact List.pairwise_lt_range.imp (by intro a b h; omega)
theorem TreeOk.nd {n z : Nat} {T : Tree} (h : TreeOk n z T) : (T.map (·.1)).Nodup := by rw [h.key]; exact range_nd n
theorem sum_set : ∀ (l : List Nat) (a v : Nat), a < l.length → (l.set a v).sum + l.getD a 0 = l.sum + v
  | x :: l, 0, v, _ => by simp; omega
  | x :: l, a + 1, v, h => by
    have := sum_set l a v (by simpa using h)
    simp only [List.set_cons_succ, List.sum_cons, List.getD_cons_succ]
    omega
theorem sum_take (l : List Nat) (j : Nat) (h : j < l.length) : (l.take (j + 1)).sum = (l.take j).sum + l.getD j 0 := by
  rw [List.take_add_one, List.sum_append, List.getD_eq_getElem?_getD, List.getElem?_eq_getElem h]
  simp
structure InvT (n L j : Nat) (Ts : List Tree) (S : List Nat) : Prop where
  tl : Ts.length = L + 1
  sl : S.length = L + 1
  ok : ∀ i, i ≤ j → TreeOk n (S.getD i 0) (Ts.getD i [])
  one : ∀ i, i ≤ j → 1 ≤ S.getD i 0
  sum : (S.take (j + 1)).sum = L + 1
theorem getD_take {S : List Nat} {a j : Nat} (h : a < j) : (S.take j).getD a 0 = S.getD a 0 := by
  rw [List.getD_eq_getElem?_getD, List.getD_eq_getElem?_getD, List.getElem?_take_of_lt h]
theorem InvT.two {n L j a : Nat} {Ts : List Tree} {S : List Nat} (h : InvT n L (j + 1) Ts S) (hj : j + 1 ≤ L) (ha : a ≤ j) : S.getD a 0 + S.getD (j + 1) 0 ≤ L + 1 := by
  have h1 := sum_take S (j + 1) (by rw [h.sl]; omega)
  rw [h.sum] at h1
  have h2 := sum_set (S.take (j + 1)) a 0 (by rw [List.length_take, h.sl]; omega)
  rw [getD_take (by omega)] at h2
  omega
theorem getD_set_ne {α : Type} {l : List α} {a i : Nat} {v d : α} (h : a ≠ i) : (l.set a v).getD i d = l.getD i d := by
  rw [List.getD_eq_getElem?_getD, List.getD_eq_getElem?_getD, List.getElem?_set_ne h]
theorem getD_set_eq {α : Type} {l : List α} {a : Nat} {v d : α} (h : a < l.length) : (l.set a v).getD a d = v := by
  rw [List.getD_eq_getElem?_getD, List.getElem?_set_self h]; rfl
theorem InvT.step {n L j a : Nat} {Ts : List Tree} {S : List Nat} {T : Tree} (h : InvT n L (j + 1) Ts S) (hj : j + 1 ≤ L) (ha : a ≤ j) (hT : TreeOk n (S.getD a 0 + S.getD (j + 1) 0) T) : InvT n L j (Ts.set a T) (S.set a (S.getD a 0 + S.getD (j + 1) 0)) := by
  refine ⟨by rw [List.length_set]; exact h.tl, by rw [List.length_set]; exact h.sl, fun i hi => ?_, fun i hi => ?_, ?_⟩
  · by_cases e : a = i
    · subst e
      rw [getD_set_eq (by rw [h.sl]; omega), getD_set_eq (by rw [h.tl]; omega)]
      exact hT
    · rw [getD_set_ne e, getD_set_ne e]
      exact h.ok i (by omega)
  · by_cases e : a = i
    · subst e
      rw [getD_set_eq (by rw [h.sl]; omega)]
      have := h.one a (by omega)
      omega
    · rw [getD_set_ne e]
      exact h.one i (by omega)
  · have h1 := sum_take S (j + 1) (by rw [h.sl]; omega)
    rw [h.sum] at h1
    have h2 := sum_set (S.take (j + 1)) a (S.getD a 0 + S.getD (j + 1) 0) (by rw [List.length_take, h.sl]; omega)
    rw [getD_take (by omega)] at h2
    rw [List.take_set]
    omega
end Lib
end

section
set_option Elab.async false
set_option linter.all false
set_option maxRecDepth 100000
set_option maxHeartbeats 2000000
namespace Lib
open PySem Ev Mc Md
structure Pk (F Q : Prs) : Prop where
  mem : ∀ q ∈ Q, q ∈ F
  pw : Q.Pairwise fun a b => disj a.1 b.1 = true
def uQ (Q : Prs) : List Int := Q.flatMap (·.1)
theorem Pk.mono {F G Q : Prs} (h : Pk F Q) (hs : ∀ q ∈ F, q ∈ G) : Pk G Q := ⟨fun q hq => hs q (h.mem q hq), h.pw⟩
theorem Pk.len {m z : Nat} {F : Prs} (hlot : ∀ q ∈ F, q.1 ∈ chs (m : Int) z 0) : ∀ {Q : Prs}, (∀ q ∈ Q, q ∈ F) → (uQ Q).length = Q.length * z
  | [], _ => by simp [uQ]
  | q :: Q, h => by
    have ih := Pk.len hlot (Q := Q) fun x hx => h x (List.mem_cons_of_mem _ hx)
    have h1 := (mem_chs.mp (hlot q (h q (by simp)))).1
    unfold uQ at ih ⊢
    rw [List.flatMap_cons, List.length_append, ih, h1, List.length_cons, Nat.add_mul]
    omega
theorem Pk.rng {m z : Nat} {F : Prs} (hlot : ∀ q ∈ F, q.1 ∈ chs (m : Int) z 0) {Q : Prs} (h : ∀ q ∈ Q, q ∈ F) : ∀ x ∈ uQ Q, 0 ≤ x ∧ x < (m : Int) := fun x hx => by
  obtain ⟨q, hq, hx⟩ := List.mem_flatMap.mp hx
  have := (rise_up.mp (mem_chs.mp (hlot q (h q hq))).2).2 x hx
  omega
theorem Pk.nd {m z : Nat} (hz : 1 ≤ z) {F : Prs} (hlot : ∀ q ∈ F, q.1 ∈ chs (m : Int) z 0) {Q : Prs} (h : Pk F Q) : (Q.map (·.1)).Nodup := by
  refine List.pairwise_map.mpr (h.pw.imp_of_mem fun {a b} ha hb hd e => ?_)
  have h1 := (mem_chs.mp (hlot a (h.mem a ha))).1
  cases ea : a.1 with
  | nil => rw [ea] at h1; simp at h1; omega
  | cons x t => exact disj_iff.mp hd x (by rw [ea]; simp) (by rw [← e, ea]; simp)
structure PkN (F : Prs) (c : Nat) (Q : Prs) : Prop where
  pk : Pk F Q
  len : Q.length = c
  nd : (Q.map (·.1)).Nodup
theorem PkN.one {m c : Nat} {F Q : Prs} (hlot : ∀ q ∈ F, q.1 ∈ chs (m : Int) 0 0) (h : PkN F c Q) : c ≤ 1 := by
  have := nodup_le (l := Q.map (·.1)) (m := [[]]) h.nd fun x hx => by
    obtain ⟨q, hq, rfl⟩ := List.mem_map.mp hx
    have := (mem_chs.mp (hlot q (h.pk.mem q hq))).1
    rw [List.eq_nil_of_length_eq_zero this]; simp
  rw [List.length_map, h.len] at this
  simpa using this
theorem fam_none {n z : Nat} {F : Prs} (hl : F.length ≤ 200) (hn : (F.map (·.1)).Nodup) (h : ∀ q ∈ F, q.1 ∈ chs (n : Int) z 0) : famAt n z (.list (F.map encF)) = none := fam_of hl (fun q hq => lot_chs (h q hq)) hn
end Lib
end

section
set_option maxHeartbeats 8000000
set_option Elab.async false
set_option linter.all false
namespace K06
open PySem Ev

def b_law_is_worthy : CSs := ((.cons (.ite (.or (.not (.op (.isi "tuple") (.cons (.var 2) .nil))) (.or (.op .ne (.cons (.op .len (.cons (.var 2) .nil)) (.cons (.cst (.int 2)) .nil))) (.or (.not (.op (.isi "int") (.cons (.op .item (.cons (.var 2) (.cons (.cst (.int 1)) .nil))) .nil))) (.op (.isi "bool") (.cons (.op .item (.cons (.var 2) (.cons (.cst (.int 1)) .nil))) .nil))))) (.cons (.ret (.cst (.bool false)))
    .nil) .nil)
    (.cons (.set (.name 3) (.op .item (.cons (.var 2) (.cons (.cst (.int 0)) .nil))))
    (.cons (.ite (.or (.not (.op (.isi "tuple") (.cons (.var 3) .nil))) (.op .ne (.cons (.op .len (.cons (.var 3) .nil)) (.cons (.var 1) .nil)))) (.cons (.ret (.cst (.bool false)))
    .nil) .nil)
    (.cons (.for_ (.name 4) (.seq (.shr 3)) (.cons (.ite (.or (.not (.op (.isi "int") (.cons (.var 4) .nil))) (.or (.op (.isi "bool") (.cons (.var 4) .nil)) (.not (.chain .le .lt (.cst (.int 0)) (.var 4) (.var 0))))) (.cons (.ret (.cst (.bool false)))
    .nil) .nil)
    .nil))
    (.cons (.ret (.op .eq (.cons (.lc (.var 5) (.name 5) (.rng2 (.cst (.int 1)) (.var 1)) (.cons (.op .ge (.cons (.op .item (.cons (.var 3) (.cons (.op .sub (.cons (.var 5) (.cons (.cst (.int 1)) .nil))) .nil))) (.cons (.op .item (.cons (.var 3) (.cons (.var 5) .nil))) .nil))) .nil) [(Str.ofString "_law_at", 5)]) (.cons (.lst .nil) .nil))))
    .nil))))))
def f_law_is_worthy : Fn := ⟨3, 6, [0, 1, 2], b_law_is_worthy⟩
def b_law_due (c_law_is_worthy : Nat) : CSs := ((.cons (.ite (.or (.not (.op (.isi "list") (.cons (.var 2) .nil))) (.op .gt (.cons (.op .len (.cons (.var 2) .nil)) (.cons (.cst (.int 200)) .nil)))) (.cons (.ret (.lst (.cons (.cst (.str (Str.ofString "no"))) (.cons (.cst .none) .nil))))
    .nil) .nil)
    (.cons (.set (.name 3) (.lst .nil))
    (.cons (.for_ (.tup (.cons (.name 4) (.cons (.name 5) .nil))) (.prs false (.cons (.var 2) .nil)) (.cons (.ite (.or (.not (.call c_law_is_worthy (.cons (.ref 0) (.cons (.ref 1) (.cons (.var 5) .nil))))) (.op .in_ (.cons (.op .item (.cons (.var 5) (.cons (.cst (.int 0)) .nil))) (.cons (.var 3) .nil)))) (.cons (.ret (.lst (.cons (.cst (.str (Str.ofString "no"))) (.cons (.var 4) .nil))))
    .nil) .nil)
    (.cons (.append 3 (.op .item (.cons (.var 5) (.cons (.cst (.int 0)) .nil))))
    .nil)))
    (.cons (.ret (.lst (.cons (.cst (.str (Str.ofString "good"))) .nil)))
    .nil)))))
def f_law_due (c_law_is_worthy : Nat) : Fn := ⟨3, 6, [0, 1, 2], b_law_due c_law_is_worthy⟩
def b_law_told (c_look_at_family : Nat) : CSs := ((.cons (.set (.name 3) (.lst (.cons (.cst (.str (Str.ofString "good"))) .nil)))
    (.cons (.tryS (.cons (.ite (.op .isnot (.cons (.call c_look_at_family (.cons (.ref 0) (.cons (.ref 1) (.cons (.ref 2) .nil)))) (.cons (.cst .none) .nil))) (.cons (.ret (.lst (.cons (.cst (.str (Str.ofString "told"))) .nil)))
    .nil) .nil)
    .nil) [0, 2, 14, 15] 4 (.cons (.set (.name 3) (.lst (.cons (.cst (.str (Str.ofString "other"))) .nil)))
    (.cons (.ite (.and (.xop (.isc [14]) (.cons (.var 4) .nil)) (.and (.xop (.isc [0, 2, 14, 15]) (.cons (.var 4) .nil)) (.not (.xop (.isc [2, 15]) (.cons (.var 4) .nil))))) (.cons (.set (.name 3) (.lst (.cons (.cst (.str (Str.ofString "no"))) (.cons (.xop (.fld "at") (.cons (.var 4) .nil)) .nil))))
    .nil) .nil)
    .nil)))
    (.cons (.ite (.op (.isi "bool") (.cons (.op .item (.cons (.var 3) (.cons (.op .neg (.cons (.cst (.int 1)) .nil)) .nil))) .nil)) (.cons (.ret (.lst (.cons (.cst (.str (Str.ofString "truth"))) .nil)))
    .nil) .nil)
    (.cons (.ret (.var 3))
    .nil)))))
def f_law_told (c_look_at_family : Nat) : Fn := ⟨3, 5, [0, 1, 2], b_law_told c_look_at_family⟩
def b_law_odd (c_law_take : Nat) : CSs := ((.cons (.set (.tup (.cons (.name 4) (.cons (.name 5) .nil))) (.var 2))
    (.cons (.set (.name 3) (.lst (.cons (.cst .none) (.cons (.var 4) (.cons (.op .list_ (.cons (.var 2) .nil)) (.cons (.tup (.cons (.var 4) .nil)) (.cons (.tup (.cons (.var 4) (.cons (.var 5) (.cons (.cst (.int 1)) .nil)))) (.cons (.tup (.cons (.op .list_ (.cons (.var 4) .nil)) (.cons (.var 5) .nil))) (.cons (.tup (.cons (.var 4) (.cons (.cst .none) .nil))) (.cons (.tup (.cons (.var 4) (.cons (.cst (.bool true)) .nil))) .nil))))))))))
    (.cons (.set (.name 3) (.op .add (.cons (.var 3) (.cons (.lst (.cons (.tup (.cons (.op .add (.cons (.var 4) (.cons (.tup (.cons (.var 1) .nil)) .nil))) (.cons (.var 5) .nil))) (.cons (.tup (.cons (.op (.sl true false) (.cons (.var 4) (.cons (.cst (.int 1)) .nil))) (.cons (.var 5) .nil))) (.cons (.tup (.cons (.op .rev (.cons (.var 4) .nil)) (.cons (.var 5) .nil))) (.cons (.tup (.cons (.op .add (.cons (.tup (.cons (.op .neg (.cons (.cst (.int 1)) .nil)) .nil)) (.cons (.op (.sl true false) (.cons (.var 4) (.cons (.cst (.int 1)) .nil))) .nil))) (.cons (.var 5) .nil))) .nil))))) .nil))))
    (.cons (.set (.name 3) (.op .add (.cons (.var 3) (.cons (.lst (.cons (.tup (.cons (.op .tuple_ (.cons (.lc (.op .str_ (.cons (.var 6) .nil)) (.name 6) (.seq (.shr 4)) .nil [(Str.ofString "_law_thing", 6)]) .nil)) (.cons (.var 5) .nil))) (.cons (.tup (.cons (.op .add (.cons (.tup (.cons (.cst (.bool true)) .nil)) (.cons (.op (.sl true false) (.cons (.var 4) (.cons (.cst (.int 1)) .nil))) .nil))) (.cons (.var 5) .nil))) (.cons (.tup (.cons (.var 5) (.cons (.var 4) .nil))) .nil)))) .nil))))
    (.cons (.set (.name 3) (.op .add (.cons (.var 3) (.cons (.lst (.cons (.tup (.cons (.var 4) (.cons (.lst (.cons (.var 5) .nil)) .nil))) (.cons (.tup (.cons (.cst .none) (.cons (.var 5) .nil))) (.cons (.tup (.cons (.var 4) (.cons (.op .str_ (.cons (.var 5) .nil)) .nil))) (.cons (.tup (.cons (.op .tuple_ (.cons (.lc (.lst (.cons (.var 6) .nil)) (.name 6) (.seq (.shr 4)) .nil [(Str.ofString "_law_thing", 6)]) .nil)) (.cons (.var 5) .nil))) .nil))))) .nil))))
    (.cons (.ret (.op .item (.cons (.var 3) (.cons (.call c_law_take (.cons (.ref 0) (.cons (.op .len (.cons (.var 3) .nil)) .nil))) .nil))))
    .nil)))))))
def f_law_odd (c_law_take : Nat) : Fn := ⟨3, 7, [0, 1, 2], b_law_odd c_law_take⟩
def b_law_bent (c_law_odd c_law_take : Nat) : CSs := ((.cons (.ite (.op .eq (.cons (.var 2) (.cons (.lst .nil) .nil))) (.cons (.ret (.lst (.cons (.cst .none) .nil)))
    .nil) .nil)
    (.cons (.set (.name 3) (.call c_law_take (.cons (.ref 0) (.cons (.op .len (.cons (.var 2) .nil)) .nil))))
    (.cons (.ite (.op .eq (.cons (.call c_law_take (.cons (.ref 0) (.cons (.cst (.int 4)) .nil))) (.cons (.cst (.int 3)) .nil))) (.cons (.set (.tup (.cons (.name 4) (.cons (.name 5) .nil))) (.op .item (.cons (.var 2) (.cons (.var 3) .nil))))
    (.cons (.ret (.op .add (.cons (.var 2) (.cons (.lst (.cons (.tup (.cons (.var 4) (.cons (.op .add (.cons (.var 5) (.cons (.call c_law_take (.cons (.ref 0) (.cons (.cst (.int 2)) .nil))) .nil))) .nil))) .nil)) .nil))))
    .nil)) .nil)
    (.cons (.ret (.op .add (.cons (.op .add (.cons (.op (.sl false true) (.cons (.var 2) (.cons (.var 3) .nil))) (.cons (.lst (.cons (.call c_law_odd (.cons (.ref 0) (.cons (.ref 1) (.cons (.op .item (.cons (.var 2) (.cons (.var 3) .nil))) .nil)))) .nil)) .nil))) (.cons (.op (.sl true false) (.cons (.var 2) (.cons (.op .add (.cons (.var 3) (.cons (.call c_law_take (.cons (.ref 0) (.cons (.cst (.int 2)) .nil))) .nil))) .nil))) .nil))))
    .nil)))))
def f_law_bent (c_law_odd c_law_take : Nat) : Fn := ⟨3, 6, [0, 1, 2], b_law_bent c_law_odd c_law_take⟩
def b_law_right (c_law_bent c_law_due c_law_family c_law_take c_law_told : Nat) : CSs := ((.cons (.set (.name 1) (.op .add (.cons (.cst (.int 1)) (.cons (.call c_law_take (.cons (.ref 0) (.cons (.cst (.int 8)) .nil))) .nil))))
    (.cons (.set (.name 2) (.call c_law_take (.cons (.ref 0) (.cons (.cst (.int 5)) .nil))))
    (.cons (.set (.name 3) (.call c_law_family (.cons (.ref 0) (.cons (.var 1) (.cons (.var 2) (.cons (.cst (.int 12)) .nil))))))
    (.cons (.set (.name 4) (.call c_law_bent (.cons (.ref 0) (.cons (.var 1) (.cons (.var 3) .nil)))))
    (.cons (.ite (.op .eq (.cons (.call c_law_take (.cons (.ref 0) (.cons (.cst (.int 2)) .nil))) (.cons (.cst (.int 1)) .nil))) (.cons (.set (.name 4) (.op .add (.cons (.call c_law_bent (.cons (.ref 0) (.cons (.var 1) (.cons (.op (.sl false true) (.cons (.var 3) (.cons (.cst (.int 1)) .nil))) .nil)))) (.cons (.var 4) .nil))))
    .nil) .nil)
    (.cons (.setLc 5 (.lc (.tup (.cons (.var 11) (.cons (.op .sub (.cons (.op .pow (.cons (.cst (.int 10)) (.cons (.cst (.int 59)) .nil))) (.cons (.var 12) .nil))) .nil))) (.tup (.cons (.name 11) (.cons (.name 12) .nil))) (.seq (.shr 3)) .nil [(Str.ofString "_law_lot", 11), (Str.ofString "_law_worth_here", 12)]))
    (.cons (.set (.name 6) (.op .item (.cons (.lst (.cons (.cst .none) (.cons (.op .tuple_ (.cons (.var 3) .nil)) (.cons (.dnew true) (.cons (.cst (.str (Str.ofString "x"))) (.cons (.cst (.int 0)) (.cons (.op .mul (.cons (.lst (.cons (.tup (.cons (.tup .nil) (.cons (.cst (.int 1)) .nil))) .nil)) (.cons (.cst (.int 201)) .nil))) .nil))))))) (.cons (.call c_law_take (.cons (.ref 0) (.cons (.cst (.int 6)) .nil))) .nil))))
    (.cons (.for_ (.name 7) (.seq (.lst (.cons (.var 3) (.cons (.var 5) (.cons (.var 4) (.cons (.var 6) (.cons (.op .rev (.cons (.var 3) .nil)) .nil))))))) (.cons (.set (.name 8) (.op .repr (.cons (.var 7) .nil)))
    (.cons (.for_ (.name 9) (.seq (.lst (.cons (.cst (.int 0)) (.cons (.cst (.int 1)) .nil)))) (.cons (.set (.name 10) (.call c_law_due (.cons (.var 1) (.cons (.op .add (.cons (.var 2) (.cons (.var 9) .nil))) (.cons (.var 7) .nil)))))
    (.cons (.ite (.or (.op .ne (.cons (.call c_law_told (.cons (.var 1) (.cons (.op .add (.cons (.var 2) (.cons (.var 9) .nil))) (.cons (.var 7) .nil)))) (.cons (.var 10) .nil))) (.op .ne (.cons (.op .repr (.cons (.var 7) .nil)) (.cons (.var 8) .nil)))) (.cons (.ret (.cst (.bool false)))
    .nil) .nil)
    .nil)))
    (.cons (.set (.name 10) (.call c_law_due (.cons (.op .sub (.cons (.var 1) (.cons (.cst (.int 1)) .nil))) (.cons (.var 2) (.cons (.var 7) .nil)))))
    (.cons (.ite (.and (.op .gt (.cons (.var 1) (.cons (.cst (.int 1)) .nil))) (.op .ne (.cons (.call c_law_told (.cons (.op .sub (.cons (.var 1) (.cons (.cst (.int 1)) .nil))) (.cons (.var 2) (.cons (.var 7) .nil)))) (.cons (.var 10) .nil)))) (.cons (.ret (.cst (.bool false)))
    .nil) .nil)
    .nil)))))
    (.cons (.ret (.cst (.bool true)))
    .nil))))))))))
def f_law_right (c_law_bent c_law_due c_law_family c_law_take c_law_told : Nat) : Fn := ⟨1, 13, [0], b_law_right c_law_bent c_law_due c_law_family c_law_take c_law_told⟩
def b_law (c_law_choices c_law_pool c_law_right c_law_told : Nat) : CSs := ((.cons (.for_ (.name 1) (.rng1 (.op .max2 (.cons (.cst (.int 1)) (.cons (.op .min2 (.cons (.op .len (.cons (.var 0) .nil)) (.cons (.cst (.int 20)) .nil))) .nil)))) (.cons (.ite (.not (.call c_law_right (.cons (.own (.call c_law_pool (.cons (.ref 0) (.cons (.var 1) .nil)))) .nil))) (.cons (.ret (.cst (.bool false)))
    .nil) .nil)
    .nil))
    (.cons (.setLc 2 (.lc (.tup (.cons (.var 3) (.cons (.cst (.int 1)) .nil))) (.name 3) (.seq (.call c_law_choices (.cons (.cst (.int 30)) (.cons (.cst (.int 2)) .nil)))) .nil [(Str.ofString "_law_lot", 3)]))
    (.cons (.ret (.and (.op .eq (.cons (.call c_law_told (.cons (.cst (.int 30)) (.cons (.cst (.int 2)) (.cons (.op (.sl false true) (.cons (.var 2) (.cons (.cst (.int 200)) .nil))) .nil)))) (.cons (.lst (.cons (.cst (.str (Str.ofString "good"))) .nil)) .nil))) (.op .eq (.cons (.call c_law_told (.cons (.cst (.int 30)) (.cons (.cst (.int 2)) (.cons (.op (.sl false true) (.cons (.var 2) (.cons (.cst (.int 201)) .nil))) .nil)))) (.cons (.lst (.cons (.cst (.str (Str.ofString "no"))) (.cons (.cst .none) .nil))) .nil)))))
    .nil))))
def f_law (c_law_choices c_law_pool c_law_right c_law_told : Nat) : Fn := ⟨1, 4, [0], b_law c_law_choices c_law_pool c_law_right c_law_told⟩
def T : List Fn := [Lib.f_is_whole, (Lib.f_is_within 0), (Lib.f_is_rising 1), (Lib.f_is_lot 2), (Lib.f_is_worthy 3 0), (Lib.f_look_at_family 4), Lib.f_law_pool, Lib.f_law_take, (Lib.f_law_choices (fun i => ([Str.ofString "_law_place"] : List Str).getD i (Str.ofString ""))), (Lib.f_law_worth 7), (Lib.f_law_family 8 7 9), f_law_is_worthy, (f_law_due 11), (f_law_told 5), (f_law_odd 7), (f_law_bent 14 7), (f_law_right 15 12 10 7 13), (f_law 8 6 16 13)]
theorem T_0 : T[0]? = some Lib.f_is_whole := rfl
theorem T_1 : T[1]? = some (Lib.f_is_within 0) := rfl
theorem T_2 : T[2]? = some (Lib.f_is_rising 1) := rfl
theorem T_3 : T[3]? = some (Lib.f_is_lot 2) := rfl
theorem T_4 : T[4]? = some (Lib.f_is_worthy 3 0) := rfl
theorem T_5 : T[5]? = some (Lib.f_look_at_family 4) := rfl
theorem T_6 : T[6]? = some Lib.f_law_pool := rfl
theorem T_7 : T[7]? = some Lib.f_law_take := rfl
theorem T_8 : T[8]? = some (Lib.f_law_choices (fun i => ([Str.ofString "_law_place"] : List Str).getD i (Str.ofString ""))) := rfl
theorem T_9 : T[9]? = some (Lib.f_law_worth 7) := rfl
theorem T_10 : T[10]? = some (Lib.f_law_family 8 7 9) := rfl
theorem T_11 : T[11]? = some f_law_is_worthy := rfl
theorem T_12 : T[12]? = some (f_law_due 11) := rfl
theorem T_13 : T[13]? = some (f_law_told 5) := rfl
theorem T_14 : T[14]? = some (f_law_odd 7) := rfl
theorem T_15 : T[15]? = some (f_law_bent 14 7) := rfl
theorem T_16 : T[16]? = some (f_law_right 15 12 10 7 13) := rfl
theorem T_17 : T[17]? = some (f_law 8 6 16 13) := rfl
/-- the turns that a while may take -/
abbrev FU : Nat := 1000000000000
end K06
end

section
set_option Elab.async false
set_option linter.all false
set_option maxRecDepth 100000
set_option maxHeartbeats 2000000
namespace K06
open PySem Ev Mc Lib Md
def WrLS (P : Ro → FR) : Prop := ∀ (m s : Int) (d : PyData), okWd d → 0 ≤ s → s ≤ 1000 → WpF (P [.sh (.int m), .sh (.int s), .sh d]) (fun v o => v = .sh (.bool (isWrtD m s d)) ∧ o = [.sh (.int m), .sh (.int s), .sh d]) noE
theorem law_worthy_ok {fu : Nat} {Phi : Nat → Ro → FR} : WrLS (runF fu Phi f_law_is_worthy) := by
  intro m s d0 hd0 h0 h1
  refine wp_fn rfl rfl ?_
  unfold b_law_is_worthy
  rcases ask_tup hd0.ask with ⟨es, rfl⟩ | ⟨ht, hr⟩
  rotate_left
  · have : isWrtD m s d0 = false := by
      unfold isWrtD
      split
      · cases ht
      · rfl
    simp_arith [pIsi_of ht, this]
  rcases two_orW es with ⟨d, w, rfl⟩ | ⟨h2, hp⟩
  rotate_left
  · have h2' : ((es.length : Int) = 2) = False := eq_false h2
    simp_arith [h2', hp]
  obtain ⟨hd, hb⟩ := hd0.two d w rfl
  have i1 : L2.atI [d, w] 1 = some w := atI_s
  have i0 : L2.atI [d, w] 0 = some d := atI_0
  have hw : isWrtD m s (.tuple [d, w]) = (isLotD m s d && isW w) := rfl
  rcases ask_int hb with ⟨n, rfl⟩ | ⟨b, c, hb1, hb2, hbc, hb3⟩
  rotate_left
  · have : isWrtD m s (.tuple [d, w]) = false := by rw [hw, hb3, Bool.and_false]
    rcases hbc with rfl | rfl
    · simp_arith [i1, pIsi_of hb1, this]
    · cases b <;> simp_arith [i1, pIsi_of hb1, pIsi_of hb2, this]
  have hw : isWrtD m s (.tuple [d, .int n]) = isLotD m s d := by rw [hw]; show (_ && true) = _; rw [Bool.and_true]
  rw [hw]
  rcases ask_tup hd.ask with ⟨ds, rfl⟩ | ⟨ht, hr⟩
  · simp_arith [i1, i0]
    refine ⟨fun h => ?_, fun h => ?_⟩
    · have : isLotD m s (.tuple ds) = false := by show (_ && decide ((ds.length : Int) = s)) = _; simp [h]
      rw [this]
    · refine wp_turnsD (fun pre q => ∃ x : Slot, q = [.sh (.int m), .sh (.int s), .sh (.tuple [.tuple ds, .int n]), .sh (.tuple ds), x, .non] ∧ ∀ x ∈ pre, ∃ n, x = .int n ∧ 0 ≤ n ∧ n < m) ⟨_, rfl, fun _ z => nomatch z⟩ ?_ ?_
      · rintro pre x post q e ⟨x0, rfl, hi⟩
        have bad : (¬ ∃ n, x = .int n ∧ 0 ≤ n ∧ n < m) → isLotD m s (.tuple ds) = false := by
          intro hn
          cases hz : isLotD m s (.tuple ds) with
          | false => rfl
          | true =>
            have hz' : (risL m (-1) ds && _) = true := hz
            rw [Bool.and_eq_true] at hz'
            exact absurd (risL_mem (by omega) hz'.1 x (by rw [e]; simp)) hn
        rcases ask_int (hd.its ds rfl x (by rw [e]; simp)) with ⟨n, rfl⟩ | ⟨b, c, hb, hc, hbc, _⟩
        · simp_arith
          refine ⟨fun hn => ⟨fun hn2 => ?_, fun hn2 => ?_⟩, fun hn => ?_⟩
          · rw [bad (by rintro ⟨k, e, h3, h4⟩; cases e; omega)]
          · exact ⟨_, rfl, fun z hz => by
              rcases List.mem_append.mp hz with q | q
              · exact hi z q
              · exact ⟨n, by simpa using q, hn, hn2⟩⟩
          · rw [bad (by rintro ⟨k, e, h3, h4⟩; cases e; omega)]
        · have hx : ¬ ∃ n, x = .int n ∧ 0 ≤ n ∧ n < m := by
            rintro ⟨n, rfl, _⟩
            cases hb; cases hc
            rcases hbc with z | z <;> cases z
          rcases hbc with rfl | rfl
          · simp_arith [pIsi_of hb, bad hx]
          · cases b <;> simp_arith [pIsi_of hb, pIsi_of hc, bad hx]
      · rintro q ⟨x0, rfl, hi⟩
        obtain ⟨ns, rfl, hns⟩ := ints_of hi
        have hl : (ns.length : Int) = s := by simpa using h
        simp_arith
        have er : rngL 1 (s - 1).toNat = (Mc.rng 1 s).map PyData.int := rngL_eq 1 s
        rw [er]
        refine wp_compM PyData.int (fun k => if ns.getD (k.toNat - 1) 0 ≥ ns.getD k.toNat 0 then some (.int k) else none) (Mc.rng 1 s) ?_ ?_
        · intro k hk
          have hk2 : 1 ≤ k ∧ k < s := by
            unfold Mc.rng at hk
            obtain ⟨j, hj, rfl⟩ := List.mem_map.mp hk
            have := List.mem_range.mp hj
            omega
          have e1 : L2.atI (ns.map PyData.int) (k - 1) = some (.int (ns.getD (k.toNat - 1) 0)) := by
            rw [atI_ints (by omega) (by omega), show (k - 1).toNat = k.toNat - 1 by omega]
          have e2 : L2.atI (ns.map PyData.int) k = some (.int (ns.getD k.toNat 0)) := atI_ints (by omega) (by omega)
          simp_arith [e1, e2]
          refine ⟨fun h => ?_, fun h => ?_⟩
          · rw [if_pos h]
          · rw [if_neg h]
        · simp_arith
          have key : (Mc.rng 1 s).filterMap (fun k => if ns.getD (k.toNat - 1) 0 ≥ ns.getD k.toNat 0 then some (PyData.int k) else none) = ((Mc.rng 1 s).filter fun k => decide (ns.getD (k.toNat - 1) 0 ≥ ns.getD k.toNat 0)).map PyData.int := by
            generalize Mc.rng 1 s = R
            induction R with
            | nil => rfl
            | cons a R ih =>
              rw [List.filterMap_cons, List.filter_cons, ih]
              by_cases hq : ns.getD (a.toNat - 1) 0 ≥ ns.getD a.toNat 0
              · rw [if_pos hq, if_pos (decide_eq_true hq)]; rfl
              · rw [if_neg hq, if_neg (by simpa using hq)]
          rw [key]
          have e3 : pEq [.list (((Mc.rng 1 s).filter fun k => decide (ns.getD (k.toNat - 1) 0 ≥ ns.getD k.toNat 0)).map PyData.int), .list []] = _ := pEqLI _ []
          simp_arith [e3]
          have fin : isLotD m s (.tuple (ns.map PyData.int)) = decide (((Mc.rng 1 s).filter fun k => decide (ns.getD (k.toNat - 1) 0 ≥ ns.getD k.toNat 0)) = []) := by
            show (risL m (-1) (ns.map PyData.int) && decide (((ns.map PyData.int).length : Int) = s)) = _
            rw [List.length_map, decide_eq_true hl, Bool.and_true]
            have hiff := risL_iff (m := m) (last := -1) hns
            have : (((Mc.rng 1 s).filter fun k => decide (ns.getD (k.toNat - 1) 0 ≥ ns.getD k.toNat 0)) = []) ↔ ∀ k, k + 1 < ns.length → ns.getD k 0 < ns.getD (k + 1) 0 := by
              rw [List.filter_eq_nil_iff]
              constructor
              · intro h k hk
                have := h ((k : Int) + 1) (by
                  unfold Mc.rng
                  exact List.mem_map.mpr ⟨k, List.mem_range.mpr (by omega), by omega⟩)
                simp only [decide_eq_true_eq] at this
                rw [show ((k : Int) + 1).toNat - 1 = k by omega, show ((k : Int) + 1).toNat = k + 1 by omega] at this
                omega
              · intro h k hk
                unfold Mc.rng at hk
                obtain ⟨j, hj, rfl⟩ := List.mem_map.mp hk
                have hj := List.mem_range.mp hj
                have := h j (by omega)
                simp only [decide_eq_true_eq]
                rw [show ((1 : Int) + (j : Int)).toNat - 1 = j by omega, show ((1 : Int) + (j : Int)).toNat = j + 1 by omega]
                omega
            have hhead : ∀ n ∈ ns.head?, (-1 : Int) < n := by
              intro n hn
              have := hns n (List.mem_of_mem_head? hn)
              omega
            cases hz : risL m (-1) (ns.map PyData.int) with
            | true => exact (decide_eq_true (this.mpr (hiff.mp hz).2)).symm
            | false =>
              symm
              rw [decide_eq_false_iff_not]
              intro q
              rw [hiff.mpr ⟨hhead, this.mp q⟩] at hz
              cases hz
          rw [fin]
  · simp_arith [i1, i0, pIsi_of ht, (hr m s).2]
abbrev sG : PyData := .str (Str.ofString "good")
abbrev sN : PyData := .str (Str.ofString "no")
def dueL (m s : Int) (d : PyData) : List PyData := match famAt m s d with
  | none => [sG]
  | some a => [sN, a]
def DueS (P : Ro → FR) : Prop := ∀ (m s : Int) (d : PyData), okFam d → 0 ≤ s → s ≤ 1000 → WpF (P [.sh (.int m), .sh (.int s), .sh d]) (fun v o => v = .lst (dueL m s d) ∧ o = [.sh (.int m), .sh (.int s), .sh d]) noE
theorem pInTs (t : List Int) (L : List (List Int)) : pIn [encT t, .list (L.map encT)] = some (.sh (.bool (L.contains t))) := by
  show (if (shp (encT t) && shp (.list (L.map encT))) = true then some (Slot.sh (.bool (inD (encT t) (L.map encT)))) else _) = _
  rw [if_pos (by rw [shp_encT, shp_list lay_encT depth_encT (by decide)]; rfl)]
  congr 3
  unfold inD
  rw [Bool.eq_iff_iff, List.any_eq_true, List.contains_iff_mem]
  constructor
  · rintro ⟨x, hx, h⟩
    obtain ⟨a, ha, rfl⟩ := List.mem_map.mp hx
    rw [eqv_encT, decide_eq_true_eq] at h
    rw [← h]; exact ha
  · intro h
    exact ⟨encT t, List.mem_map.mpr ⟨t, h, rfl⟩, by rw [eqv_encT]; simp⟩
theorem law_due_ok {fu wo : Nat} {Phi : Nat → Ro → FR} (hW : WrLS (Phi wo)) : DueS (runF fu Phi (f_law_due wo)) := by
  intro m z d hd h0 h1
  refine wp_fn rfl rfl ?_
  unfold b_law_due
  rcases ask_listF hd.ask with ⟨ds, rfl⟩ | ⟨ht, hr⟩
  · obtain ⟨hdl, hds⟩ := hd.its ds rfl
    simp_arith [prsDE (show ds.length ≤ 8388608 by omega)]
    refine ⟨fun h => ?_, fun h => ?_⟩
    · have : famAt m z (.list ds) = some .none := by show (if _ then _ else _) = _; rw [if_pos (by omega)]
      unfold dueL
      rw [this]
    have hfa : famAt m z (.list ds) = (famBad m z [] 0 ds).map fun k : Nat => PyData.int (k : Int) := by show (if _ then _ else _) = _; rw [if_neg (by omega)]
    unfold dueL
    rw [hfa]
    refine wp_turns encDE (fun pre q => ∃ (S : List (List Int)) (x4 x5 : Ev.Slot), q = [.sh (.int m), .sh (.int z), .sh (.list ds), .lst (S.map encT), x4, x5] ∧ S.length = pre.length ∧ ∀ post, famBad m z [] 0 (pre.map (·.1) ++ post) = famBad m z S pre.length post) (ds.zipIdx 0) ⟨[], _, _, rfl, rfl, fun _ => rfl⟩ ?_ ?_
    · rintro pre q post fr e ⟨S, x4, x5, rfl, hS, hi⟩
      have eF : ds = pre.map (·.1) ++ q.1 :: post.map (·.1) := by
        have := congrArg (List.map (·.1)) e
        rw [List.zipIdx_map_fst, List.map_append, List.map_cons] at this
        exact this
      have hl := congrArg List.length eF
      simp only [List.length_append, List.length_map, List.length_cons] at hl
      have hq2 : q.2 = pre.length := by
        have h1 : (ds.zipIdx 0)[pre.length]? = some q := by rw [e]; simp
        rw [List.getElem?_zipIdx] at h1
        obtain ⟨a, _, rfl⟩ := Option.map_eq_some_iff.mp h1
        simp
      have hq : q.1 ∈ ds := by rw [eF]; simp
      have hx : famBad m z [] 0 ds = famBad m z S pre.length (q.1 :: post.map (·.1)) := by rw [eF]; exact hi _
      have fin : (isWrtD m z q.1 && !(S.contains (intsOf (fstD q.1)))) = false → famBad m z [] 0 ds = some pre.length := fun hh => by rw [hx, famBad, if_neg (by rw [hh]; decide)]
      simp_arith [↓asg_DE]
      refine (hW m z q.1 (hds _ hq) h0 h1).to ?_
      rintro _ _ ⟨rfl, rfl⟩
      simp_arith
      refine ⟨fun h2 => ?_, fun h2 => ?_⟩
      · rw [fin (by rw [h2, Bool.false_and]), hq2]
        rfl
      · obtain ⟨b, eb⟩ := wrt_of h2
        generalize hf : intsOf (fstD q.1) = t at eb fin
        have it0 : pItem [q.1, .int 0] = some (.sh (encT t)) := by
          rw [eb, pItemU, atI_0]; rfl
        simp_arith [it0, pInTs]
        refine ⟨fun h3 => ?_, fun h3 => ?_⟩
        · rw [fin (by rw [List.contains_iff_mem.mpr (by simpa using h3)]; simp), hq2]
          rfl
        · have hno : t ∉ S := by simpa using h3
          refine ⟨S ++ [t], _, _, by rw [List.map_append]; rfl, by simp [hS], fun post2 => ?_⟩
          rw [List.map_append, List.append_assoc, hi]
          show famBad m z S pre.length (q.1 :: post2) = _
          rw [famBad, if_pos (by rw [h2, hf]; simp [hno]), hf, List.length_append]
          rfl
    · rintro fr ⟨S, x4, x5, rfl, hS, hi⟩
      have h0 : famBad m z [] 0 ds = none := by
        have := hi []
        rw [List.append_nil, List.zipIdx_map_fst] at this
        rw [this]; rfl
      simp_arith [h0]
  · simp_arith [pIsi_of ht]
    unfold dueL
    rw [hr]
theorem at_m1 (a : PyData) : L2.atI [a] (-1) = some a := rfl
theorem at_m2 (a b : PyData) : L2.atI [a, b] (-1) = some b := rfl
def ToldS (P : Ro → FR) : Prop := ∀ (m s : Int) (d : PyData), okFam d → WpF (P [.sh (.int m), .sh (.int s), .sh d]) (fun v o => v = .lst (dueL m s d) ∧ o = [.sh (.int m), .sh (.int s), .sh d]) noE
theorem famAt_cases (m s : Int) (d : PyData) : famAt m s d = none ∨ famAt m s d = some .none ∨ ∃ k : Nat, famAt m s d = some (.int (k : Int)) := by
  unfold famAt
  split
  · split
    · exact .inr (.inl rfl)
    · cases famBad m s [] 0 _ with
      | none => exact .inl rfl
      | some k => exact .inr (.inr ⟨k, rfl⟩)
  · exact .inr (.inl rfl)
theorem law_told_ok {fu lf : Nat} {Phi : Nat → Ro → FR} (hL : LfbS (Phi lf)) : ToldS (runF fu Phi (f_law_told lf)) := by
  intro m s d hd
  refine wp_fn rfl rfl ?_
  unfold b_law_told
  simp_arith [wp_tryS]
  refine (hL m s d hd).imp ?_ ?_
  · rintro _ _ ⟨rfl, hf, rfl⟩
    unfold dueL
    rw [hf]
    simp_arith [at_m1]
  · rintro c fs _ ⟨rfl, ⟨a, hf, rfl⟩, rfl⟩
    have ha : a = .none ∨ ∃ k : Nat, a = .int (k : Int) := by
      rcases famAt_cases m s d with h | h | ⟨k, h⟩ <;> rw [h] at hf <;> cases hf
      · exact .inl rfl
      · exact .inr ⟨k, rfl⟩
    have i1 : pIsc [14] [excD 14 [(.str (Str.ofString "at"), a)]] = some (.sh (.bool true)) := rfl
    have i2 : pIsc [0, 2, 14, 15] [excD 14 [(.str (Str.ofString "at"), a)]] = some (.sh (.bool true)) := rfl
    have i3 : pIsc [2, 15] [excD 14 [(.str (Str.ofString "at"), a)]] = some (.sh (.bool false)) := rfl
    have i4 : pFld "at" [excD 14 [(.str (Str.ofString "at"), a)]] = some (.sh a) := rfl
    unfold dueL
    rw [hf]
    rcases ha with rfl | ⟨k, rfl⟩
    · simp_arith [eTryS, i1, i2, i3]
      refine (show WpP (some (Ev.Slot.sh .none)) _ _ from ?_)
      simp_arith [at_m2]
    · simp_arith [eTryS, i1, i2, i3]
      refine (show WpP (some (Ev.Slot.sh (.int (k : Int)))) _ _ from ?_)
      simp_arith [at_m2]
theorem rep_fold {q : Nat} : ∀ (l : List Nat) (n : Nat), (∀ c ∈ l, (Builtin.Str.reprChar q c).length ≤ 1) → l.foldl (fun n c => n + (Builtin.Str.reprChar q c).length) n ≤ n + l.length
  | [], n, _ => by simp
  | c :: l, n, h => by
    rw [List.foldl_cons]
    have h1 := h c (by simp)
    have h2 := rep_fold l (n + (Builtin.Str.reprChar q c).length) fun x hx => h x (List.mem_cons_of_mem _ hx)
    simp only [List.length_cons]
    omega
theorem rep_dig : ∀ q : Bool, ∀ c : Nat, c < 58 → 45 ≤ c → c ≠ 46 → c ≠ 47 → (Builtin.Str.reprChar (if q then 34 else 39) c).length ≤ 1 := by decide +kernel
theorem int_cps {w : Int} {s : Nat} (h : s ∈ TL.tl (intT w)) : s < 58 ∧ 45 ≤ s ∧ s ≠ 46 ∧ s ≠ 47 := by
  by_cases h1 : s = 45
  · subst h1; decide
  · by_cases h2 : s < 48 ∨ 57 < s
    · exact absurd h (int_free h2 h1)
    · omega
theorem rp_strI {w : Int} (h : w.natAbs < 100000000000000000000) : rp 23 0 (.str (intT w)) := by
  have hl := len_int h
  refine (rp_str (intT w) ?_).mono ?_ (Nat.le_refl 0)
  · show (intT w).cps.all _ = true
    rw [← Array.all_toList, List.all_eq_true]
    intro c hc
    have := (int_cps (w := w) hc).1
    exact decide_eq_true (by omega)
  · rw [← reprLen_eq, ← Array.foldl_toList]
    refine Nat.le_trans (rep_fold _ 2 fun c hc => ?_) ?_
    · obtain ⟨a, b, d, e⟩ := int_cps (w := w) hc
      unfold reprQuote
      split
      · exact rep_dig true c a b d e
      · exact rep_dig false c a b d e
    · have : (intT w).cps.toList.length = (intT w).length := by rw [Array.length_toList]; rfl
      omega
structure OddP (d : PyData) : Prop where
  ok : okWd d
  rep : rp 40000 3 d
theorem okT_T (t : List Int) : okT (encT t) := okT_tup fun x hx => by obtain ⟨i, _, rfl⟩ := List.mem_map.mp hx; rfl
theorem okW2 {a b : PyData} (ha : okT a) (hb : askD b = true) : okWd (.tuple [a, b]) := ⟨rfl, fun x y e => by cases e; exact ⟨ha, hb⟩⟩
theorem rp2 {a b : PyData} (ha : rp 11000 2 a) (hb : rp 11000 2 b) : rp 40000 3 (.tuple [a, b]) := (rp_tuple (L := 2) (N := 11000) (k := 2) (fun x hx => by
  simp only [List.mem_cons, List.not_mem_nil, or_false] at hx
  rcases hx with rfl | rfl <;> assumption) (by simp)).mono (by decide) (by decide)
theorem rpm {N k : Nat} {d : PyData} (h : rp N k d) (h1 : N ≤ 11000) (h2 : k ≤ 2) : rp 11000 2 d := h.mono h1 h2
theorem odd19 {m z : Nat} {t : List Int} {w : Int} (hm : m ≤ 8) (ht : t.length ≤ 4) (htb : ∀ x ∈ t, 0 ≤ x ∧ x < m) (hw1 : -1000000000000000000 ≤ w) (hw2 : w ≤ 1000000000000000000) : ∀ d ∈ [PyData.none, encT t, .list [encT t, .int w], .tuple [encT t], .tuple [encT t, .int w, .int 1],
    .tuple [.list (t.map PyData.int), .int w], .tuple [encT t, .none], .tuple [encT t, .bool true], .tuple [encT (t ++ [(m : Int)]), .int w], .tuple [encT (t.drop 1), .int w], .tuple [encT t.reverse, .int w], .tuple [.tuple (.int (-1) :: (t.drop 1).map PyData.int), .int w],
    .tuple [.tuple (t.map fun x => .str (intT x)), .int w], .tuple [.tuple (.bool true :: (t.drop 1).map PyData.int), .int w], .tuple [.int w, encT t], .tuple [encT t, .list [.int w]], .tuple [.none, .int w], .tuple [encT t, .str (intT w)], .tuple [.tuple (t.map fun x => .list [.int x]), .int w]], OddP d := by
  have rT : ∀ u : List Int, u.length ≤ 5 → (∀ x ∈ u, 0 ≤ x ∧ x ≤ 100) → rp 11000 2 (encT u) := fun u h1 h2 => rpm (rp_encT (L := 5) (fun x hx => by have := h2 x hx; omega) h1) (by decide) (by decide)
  have bT : ∀ x ∈ t, 0 ≤ x ∧ x ≤ 100 := fun x hx => by have := htb x hx; omega
  have dT : ∀ x ∈ t.drop 1, 0 ≤ x ∧ x ≤ 100 := fun x hx => bT x (List.mem_of_mem_drop hx)
  have dl : (t.drop 1).length ≤ 4 := by rw [List.length_drop]; omega
  have r1 := rT t (by omega) bT
  have rw_ : rp 11000 2 (.int w) := rpm (rp_small (by omega)) (by decide) (by decide)
  have rD : ∀ d : PyData, rp 1921 0 d → rp 11000 2 (.tuple (d :: (t.drop 1).map PyData.int)) := fun d hd => rpm (rp_tuple (L := 5) (N := 1921) (k := 0) (fun x hx => by
    rcases List.mem_cons.mp hx with rfl | h
    · exact hd
    · obtain ⟨i, hi, rfl⟩ := List.mem_map.mp h
      exact rp_small (by have := dT i hi; omega)) (by simp only [List.length_cons, List.length_map]; omega)) (by decide) (by decide)
  have kD : ∀ d : PyData, askD d = true → okT (.tuple (d :: (t.drop 1).map PyData.int)) := fun d hd => okT_tup fun x hx => by
    rcases List.mem_cons.mp hx with rfl | h
    · exact hd
    · obtain ⟨i, hi, rfl⟩ := List.mem_map.mp h; rfl
  intro d hd
  simp only [List.mem_cons, List.not_mem_nil, or_false] at hd
  rcases hd with rfl | rfl | rfl | rfl | rfl | rfl | rfl | rfl | rfl | rfl | rfl | rfl | rfl | rfl | rfl | rfl | rfl | rfl | rfl
  · exact ⟨⟨rfl, fun a b e => by cases e⟩, rp_none.mono (by decide) (by decide)⟩
  · refine ⟨⟨rfl, fun a b e => ?_⟩, r1.mono (by decide) (by decide)⟩
    have h : ∀ x ∈ [a, b], ∃ i, x = PyData.int i := fun x hx => by
      have : x ∈ t.map PyData.int := by
        have e' : t.map PyData.int = [a, b] := PyData.tuple.inj e
        rw [e']; exact hx
      obtain ⟨i, _, rfl⟩ := List.mem_map.mp this
      exact ⟨i, rfl⟩
    obtain ⟨i, rfl⟩ := h a (by simp)
    obtain ⟨j, rfl⟩ := h b (by simp)
    exact ⟨okT_flat rfl nofun, rfl⟩
  · exact ⟨⟨rfl, fun a b e => by cases e⟩, (rp_list (L := 2) (N := 11000) (k := 2) (fun x hx => by
      simp only [List.mem_cons, List.not_mem_nil, or_false] at hx
      rcases hx with rfl | rfl <;> assumption) (by simp)).mono (by decide) (by decide)⟩
  · exact ⟨⟨rfl, fun a b e => by cases e⟩, (rp_tuple (L := 1) (N := 11000) (k := 2) (fun x hx => by rw [List.mem_singleton.mp hx]; exact r1) (by simp)).mono (by decide) (by decide)⟩
  · exact ⟨⟨rfl, fun a b e => by cases e⟩, (rp_tuple (L := 3) (N := 11000) (k := 2) (fun x hx => by
      simp only [List.mem_cons, List.not_mem_nil, or_false] at hx
      rcases hx with rfl | rfl | rfl
      · exact r1
      · exact rw_
      · exact rpm (rp_small (by decide)) (by decide) (by decide)) (by simp)).mono (by decide) (by decide)⟩
  · exact ⟨okW2 (okT_flat rfl nofun) rfl, rp2 (rpm (rp_list (L := 5) (N := 1921) (k := 0) (fun x hx => by
      obtain ⟨i, hi, rfl⟩ := List.mem_map.mp hx
      exact rp_small (by have := bT i hi; omega)) (by rw [List.length_map]; omega)) (by decide) (by decide)) rw_⟩
  · exact ⟨okW2 (okT_T _) rfl, rp2 r1 (rpm rp_none (by decide) (by decide))⟩
  · exact ⟨okW2 (okT_T _) rfl, rp2 r1 (rpm (rp_bool true) (by decide) (by decide))⟩
  · exact ⟨okW2 (okT_T _) rfl, rp2 (rT _ (by rw [List.length_append, List.length_singleton]; omega) (fun x hx => by
      rcases List.mem_append.mp hx with h | h
      · exact bT x h
      · rw [List.mem_singleton.mp h]; omega)) rw_⟩
  · exact ⟨okW2 (okT_T _) rfl, rp2 (rT _ (by omega) dT) rw_⟩
  · exact ⟨okW2 (okT_T _) rfl, rp2 (rT _ (by rw [List.length_reverse]; omega) fun x hx => bT x (List.mem_reverse.mp hx)) rw_⟩
  · exact ⟨okW2 (kD _ rfl) rfl, rp2 (rD _ (rp_small (by decide))) rw_⟩
  · exact ⟨okW2 (okT_tup fun x hx => by obtain ⟨i, _, rfl⟩ := List.mem_map.mp hx; rfl) rfl, rp2 (rpm (rp_tuple (L := 5) (N := 23) (k := 0) (fun x hx => by
      obtain ⟨i, hi, rfl⟩ := List.mem_map.mp hx
      exact rp_strI (by have := bT i hi; omega)) (by rw [List.length_map]; omega)) (by decide) (by decide)) rw_⟩
  · exact ⟨okW2 (kD _ rfl) rfl, rp2 (rD _ ((rp_bool true).mono (by decide) (by decide))) rw_⟩
  · exact ⟨okW2 (okT_flat rfl nofun) rfl, rp2 rw_ r1⟩
  · exact ⟨okW2 (okT_T _) rfl, rp2 r1 (rpm (rp_list (L := 1) (N := 1921) (k := 0) (fun x hx => by rw [List.mem_singleton.mp hx]; exact rp_small (by omega)) (by simp)) (by decide) (by decide))⟩
  · exact ⟨okW2 (okT_flat rfl nofun) rfl, rp2 (rpm rp_none (by decide) (by decide)) rw_⟩
  · exact ⟨okW2 (okT_T _) rfl, rp2 r1 (rpm (rp_strI (by omega)) (by decide) (by decide))⟩
  · exact ⟨okW2 (okT_tup fun x hx => by obtain ⟨i, _, rfl⟩ := List.mem_map.mp hx; rfl) rfl, rp2 (rpm (rp_tuple (L := 5) (N := 1926) (k := 1) (fun x hx => by
      obtain ⟨i, hi, rfl⟩ := List.mem_map.mp hx
      exact (rp_list (L := 1) (N := 1921) (k := 0) (fun y hy => by rw [List.mem_singleton.mp hy]; exact rp_small (by have := bT i hi; omega)) (by simp)).mono (by decide) (by decide)) (by rw [List.length_map]; omega)) (by decide) (by decide)) rw_⟩
def OddS (P : Ro → FR) : Prop := ∀ (l : List PyData) (m : Nat) (z : Nat) (q : List Int × Int), PoolOk l → m ≤ 8 → z ≤ 4 → q.1.length = z → (∀ x ∈ q.1, 0 ≤ x ∧ x < m) → -1000000000000000000 ≤ q.2 → q.2 ≤ 1000000000000000000 →
  WpF (P [.lst l, .sh (.int m), .sh (encF q)]) (fun v o => ∃ (d : PyData) (l' : List PyData), v = .sh d ∧ o = [.lst l', .sh (.int m), .sh (encF q)] ∧ PoolOk l' ∧ OddP d) noE
theorem law_odd_ok {fu ta : Nat} {Phi : Nat → Ro → FR} (hT : TakeS (Phi ta)) : OddS (runF fu Phi (f_law_odd ta)) := by
  intro l m z ⟨t, w⟩ hl hm hz ht htb hw1 hw2
  refine wp_fn rfl rfl ?_
  unfold b_law_odd
  have ht : t.length = z := ht
  have htl : t.length ≤ 4 := by omega
  have eLT : pList [encT t] = some (.lst (t.map PyData.int)) := rfl
  have eL : pList [encF (t, w)] = some (.lst [encT t, .int w]) := rfl
  have eS : pSl true false [encT t, .int 1] = some (.sh (encT (t.drop 1))) := by
    show pSl true false [.tuple (t.map PyData.int), .int 1] = _
    rw [pSlUlo1, ← List.map_drop]; rfl
  have eR : pRev [encT t] = some (.sh (encT t.reverse)) := by
    show pRev [.tuple (t.map PyData.int)] = _
    rw [pRevU, ← List.map_reverse]; rfl
  have eA : ∀ (d : PyData) (u : List Int), u.length ≤ 100 → pAdd [.tuple [d], encT u] = some (.sh (.tuple (d :: u.map PyData.int))) := fun d u hu => by
    show pAdd [.tuple [d], .tuple (u.map PyData.int)] = _
    rw [pAddT (by simp; omega)]; rfl
  have eA1 := eA (.int (-1)) (t.drop 1) (by rw [List.length_drop]; omega)
  have eA2 := eA (.bool true) (t.drop 1) (by rw [List.length_drop]; omega)
  have eP := pAddTs (t := t) (x := (m : Int)) (by omega)
  have eW : pStr [.int w] = some (.sh (.str (intT w))) := Lib.pStrI (by omega)
  simp_arith [↓asg_pairF, eL, eS, eR, eA1, eA2, eP, eW, eLT]
  have seqT : ∀ (t : List Int) (l : List Lk) (r : Ro), seqI (encT t) l r = .ok (t.map PyData.int, l) r := fun _ _ _ => rfl
  have tI : ∀ x ∈ t, x.natAbs < 100000000000000000000 := fun x hx => by have := htb x hx; omega
  simp_arith [seqT]
  refine wp_compM PyData.int (fun x => some (.str (intT x))) t (fun x hx => ?_) ?_
  · simp_arith [Lib.pStrI (tI x hx)]
  rw [show List.filterMap (fun x => some (PyData.str (intT x))) t = t.map fun x => PyData.str (intT x) from by rw [fm_some]]
  have eT : ∀ L : List PyData, pTuple [.list L] = some (.sh (.tuple L)) := fun _ => rfl
  simp_arith [eT, eA2, seqT, eS]
  refine wp_compM PyData.int (fun x => some (.list [.int x])) t (fun x hx => ?_) ?_
  · simp_arith
  rw [show List.filterMap (fun x : Int => some (PyData.list [.int x])) t = t.map fun x => PyData.list [.int x] from by rw [fm_some]]
  simp_arith [eT, eW]
  refine (hT l 19 hl (by decide) (by decide)).to ?_
  rintro _ _ ⟨y, l1, rfl, rfl, hy, hl1⟩
  obtain ⟨d, ed, hd⟩ := Lib.at_of (odd19 (z := z) hm htl htb hw1 hw2) (y := y) (by simp; omega)
  rw [show Str.ofString (toString w) = intT w from rfl]
  simp_arith [ed]
  exact ⟨d, l1, rfl, rfl, hl1, hd⟩
theorem odd_F {m z n : Nat} {F : Prs} (hz : z ≤ 4) (hm : m ≤ 8) (h : FamOk (m : Int) z n F) : ∀ q ∈ F, q.1.length = z ∧ (∀ x ∈ q.1, 0 ≤ x ∧ x < m) ∧ -1000000000000000000 ≤ q.2 ∧ q.2 ≤ 1000000000000000000 := fun q hq => by
  obtain ⟨a, b⟩ := h.lot q hq
  exact ⟨a, fun x hx => (rise_up.mp b).2 x hx, h.wor q hq⟩
theorem oddP_F {m : Nat} {q : List Int × Int} (hm : m ≤ 8) (h1 : q.1.length ≤ 4) (h2 : ∀ x ∈ q.1, 0 ≤ x ∧ x < m) (h3 : q.2.natAbs.log2 < 1920) : OddP (encF q) := by
  refine ⟨okW2 (okT_T _) rfl, rp2 (rpm (rp_encT (L := 5) (fun x hx => by have := h2 x hx; omega) (by omega)) (by decide) (by decide)) (rpm (rp_int h3) (by decide) (by decide))⟩
def BenS (P : Ro → FR) : Prop := ∀ (l : List PyData) (m z : Nat) (F : Prs), PoolOk l → m ≤ 8 → z ≤ 4 → F.length ≤ 12 → (∀ q ∈ F, q.1.length = z ∧ (∀ x ∈ q.1, 0 ≤ x ∧ x < m) ∧ -1000000000000000000 ≤ q.2 ∧ q.2 ≤ 1000000000000000000) →
  WpF (P [.lst l, .sh (.int m), .sh (.list (F.map encF))]) (fun v o => ∃ (B : List PyData) (l' : List PyData), v = .lst B ∧ o = [.lst l', .sh (.int m), .sh (.list (F.map encF))] ∧ PoolOk l' ∧ B.length ≤ 13 ∧ ∀ x ∈ B, OddP x) noE
theorem law_bent_ok {fu od ta : Nat} {Phi : Nat → Ro → FR} (hO : OddS (Phi od)) (hT : TakeS (Phi ta)) : BenS (runF fu Phi (f_law_bent od ta)) := by
  intro l m z F hl hm hz hF hFq
  refine wp_fn rfl rfl ?_
  unfold b_law_bent
  have hodd : ∀ q ∈ F, OddP (encF q) := fun q hq => by
    obtain ⟨h1, h2, h3, h4⟩ := hFq q hq
    exact oddP_F hm (by omega) h2 (log2_small (by omega))
  have e0 : pEq [.list (F.map encF), .list []] = some (.sh (.bool (decide (F = [])))) := pEqF F []
  simp_arith [e0]
  refine ⟨fun h => ⟨_, l, rfl, rfl, hl, by simp, fun x hx => by rw [List.mem_singleton.mp hx]; exact ⟨⟨rfl, fun a b e => by cases e⟩, rp_none.mono (by decide) (by decide)⟩⟩, fun h => ?_⟩
  have hpos : 1 ≤ F.length := by
    cases F with
    | nil => exact absurd rfl h
    | cons a b => simp
  refine (hT l (F.length : Int) hl (by omega) (by omega)).to ?_
  rintro _ _ ⟨at_, l1, rfl, rfl, hat, hl1⟩
  have hat' : at_ < F.length := by omega
  have hq : F[at_] ∈ F := List.getElem_mem hat'
  have eI : L2.atI (F.map encF) (at_ : Int) = some (encF F[at_]) := by
    rw [atI_nat (by rw [List.length_map]; exact hat'), List.getElem?_map, List.getElem?_eq_getElem hat']; rfl
  obtain ⟨q1, q2, q3, q4⟩ := hFq _ hq
  simp_arith
  refine (hT l1 4 hl1 (by first | decide | omega) (by first | decide | omega)).to ?_
  rintro _ _ ⟨y, l2, rfl, rfl, hy, hl2⟩
  simp_arith
  simp_arith [eI]
  refine ⟨fun hy3 => ?_, fun hy3 => ?_⟩
  · simp_arith [↓asg_pairF]
    refine (hT l2 2 hl2 (by first | decide | omega) (by first | decide | omega)).to ?_
    rintro _ _ ⟨k, l3, rfl, rfl, hk, hl3⟩
    simp_arith
    refine ⟨_, l3, rfl, rfl, hl3, by simp; omega, fun x hx => ?_⟩
    rcases List.mem_append.mp hx with h | h
    · obtain ⟨q, hq, rfl⟩ := List.mem_map.mp h
      exact hodd q hq
    · rw [List.mem_singleton.mp h]
      exact oddP_F (q := (F[at_].1, F[at_].2 + (k : Int))) hm (by show F[at_].1.length ≤ 4; omega) q2 (log2_small (by show (F[at_].2 + (k : Int)).natAbs < _; omega))
  · refine (hO l2 m z F[at_] hl2 hm hz q1 q2 q3 q4).to ?_
    rintro _ _ ⟨d, l3, rfl, rfl, hl3, hd⟩
    simp_arith
    refine (hT l3 2 hl3 (by first | decide | omega) (by first | decide | omega)).to ?_
    rintro _ _ ⟨k, l4, rfl, rfl, hk, hl4⟩
    simp_arith
    have ek : (at_ : Int) + (k : Int) = ((at_ + k : Nat) : Int) := by omega
    rw [ek]
    simp_arith
    refine ⟨_, l4, rfl, rfl, hl4, by simp; omega, fun x hx => ?_⟩
    have hF' : ∀ x ∈ F.map encF, OddP x := fun x hx => by
      obtain ⟨q, hq, rfl⟩ := List.mem_map.mp hx
      exact hodd q hq
    rcases List.mem_append.mp hx with h | h
    · rcases List.mem_append.mp h with h | h
      · exact hF' x (List.mem_of_mem_take h)
      · rw [List.mem_singleton.mp h]; exact hd
    · exact hF' x (List.mem_of_mem_drop h)
structure ThgOk (d : PyData) : Prop where
  ok : okFam d
  rep : ∃ z, pRepr [d] = some (.sh (.str z))
theorem pNe_due (m s : Int) (d : PyData) : pNe [.list (dueL m s d), .list (dueL m s d)] = some (.sh (.bool false)) := by
  have hg : PyData.strOk (Str.ofString "good") = true := by decide +kernel
  have hn : PyData.strOk (Str.ofString "no") = true := by decide +kernel
  have hsh : shp (.list (dueL m s d)) = true := by
    rcases famAt_cases m s d with h | h | ⟨k, h⟩ <;> unfold dueL <;> rw [h] <;> exact shp_of (k := 3) (by simp [PyData.canLay0, PyData.canLayAll0, hg, hn]) (by simp [PyData.depth, PyData.depthAll]) (by decide)
  rw [pNe_of hsh hsh]
  rcases famAt_cases m s d with h | h | ⟨k, h⟩ <;> unfold dueL <;> rw [h] <;> simp [PyData.eqv, PyData.eqvAll]
theorem pNe_str (z : Str) : pNe [.str z, .str z] = some (.sh (.bool false)) := by
  show some (Ev.Slot.sh (.bool (!_))) = _
  simp
theorem okF_list {ds : List PyData} (h1 : ds.length ≤ 1000) (h : ∀ x ∈ ds, okWd x) : okFam (.list ds) := ⟨rfl, fun es e => by cases e; exact ⟨by omega, h⟩⟩
theorem thg_list {ds : List PyData} (h1 : ds.length ≤ 40) (h : ∀ x ∈ ds, OddP x) : ThgOk (.list ds) :=
  ⟨okF_list (by omega) fun x hx => (h x hx).ok, _, (rp_list (L := 40) (N := 40000) (k := 3) (fun x hx => (h x hx).rep) h1).repr (by decide) (by decide)⟩
theorem thg_flat {d : PyData} (h : askD d = true) (h2 : ∀ ds, d ≠ .list ds) (h3 : ∃ z, pRepr [d] = some (.sh (.str z))) : ThgOk d := ⟨⟨h, fun ds e => absurd e (h2 ds)⟩, h3⟩
theorem p1059 : pPow [.int 10, .int 59] = some (.sh (.int 100000000000000000000000000000000000000000000000000000000000)) := by rfl
theorem right_ok {fu be du fa ta td : Nat} {Phi : Nat → Ro → FR} (hB : BenS (Phi be)) (hD : DueS (Phi du)) (hF : FamS (Phi fa)) (hT : TakeS (Phi ta)) (hTd : ToldS (Phi td)) : RightS (runF fu Phi (f_law_right be du fa ta td)) := by
  intro l hl
  refine wp_fn rfl rfl ?_
  unfold b_law_right
  simp_arith
  refine (hT l 8 hl (by first | decide | omega) (by first | decide | omega)).to ?_
  rintro _ _ ⟨a1, l1, rfl, rfl, ha1, hl1⟩
  simp_arith
  refine (hT l1 5 hl1 (by first | decide | omega) (by first | decide | omega)).to ?_
  rintro _ _ ⟨z, l2, rfl, rfl, hz, hl2⟩
  simp_arith
  obtain ⟨m, em, hm1, hm8⟩ : ∃ m : Nat, 1 + (a1 : Int) = (m : Int) ∧ 1 ≤ m ∧ m ≤ 8 := ⟨a1 + 1, by omega, by omega, by omega⟩
  have hz4 : z ≤ 4 := by omega
  rw [em]
  refine (hF l2 (m : Int) z 12 hl2 (by omega) (by omega) (by omega) (by omega)).to ?_
  rintro _ _ ⟨F, l3, rfl, rfl, hF, hl3⟩
  have hFl := hF.len
  have hFq := odd_F hz4 hm8 hF
  simp_arith
  refine (hB l3 m z F hl3 hm8 hz4 hFl hFq).to ?_
  rintro _ _ ⟨B0, l4, rfl, rfl, hl4, hB0, hB0o⟩
  refine wp_mid 1 (fun q => ∃ (B : List PyData) (l' : List PyData), q = [.lst l', .sh (.int m), .sh (.int z), .sh (.list (F.map encF)), .lst B, .non, .non, .non, .non, .non, .non, .non, .non] ∧ PoolOk l' ∧ B.length ≤ 26 ∧ ∀ x ∈ B, OddP x) ?_ ?_
  · simp_arith
    refine (hT l4 2 hl4 (by first | decide | omega) (by first | decide | omega)).to ?_
    rintro _ _ ⟨y, l5, rfl, rfl, hy, hl5⟩
    simp_arith
    refine ⟨fun hy1 => ?_, fun hy1 => ⟨B0, l5, rfl, hl5, by omega, hB0o⟩⟩
    have e1 : pSl false true [.list (F.map encF), .int 1] = some (.lst ((F.take 1).map encF)) := by rw [pSlLhi1, List.map_take]
    rw [← List.map_take]
    refine (hB l5 m z (F.take 1) hl5 hm8 hz4 (by rw [List.length_take]; omega) fun q hq => hFq q (List.mem_of_mem_take hq)).to ?_
    rintro _ _ ⟨B1, l6, rfl, rfl, hl6, hB1, hB1o⟩
    simp_arith
    exact ⟨B1 ++ B0, l6, rfl, hl6, by rw [List.length_append]; omega, fun x hx => (List.mem_append.mp hx).elim (hB1o x) (hB0o x)⟩
  rintro q ⟨B, l5, rfl, hl5, hBl, hBo⟩
  simp_arith
  refine wp_compM encF (fun q => some (encF (q.1, 100000000000000000000000000000000000000000000000000000000000 - q.2))) F (fun q hq => ?_) ?_
  · simp_arith [↓asg_pairF, p1059]
    rfl
  rw [fm_some]
  have eF : F.map (fun q => encF (q.1, 100000000000000000000000000000000000000000000000000000000000 - q.2)) = (F.map fun q => (q.1, 100000000000000000000000000000000000000000000000000000000000 - q.2)).map encF := by rw [List.map_map]; rfl
  rw [eF]
  have m201 : pMul [.list [.tuple [.tuple [], .int 1]], .int 201] = some (.lst (List.replicate 201 (.tuple [.tuple [], .int 1]))) := by rfl
  generalize hR : List.replicate 201 (PyData.tuple [.tuple [], .int 1]) = R201 at m201
  simp_arith [m201]
  refine (hT l5 6 hl5 (by first | decide | omega) (by first | decide | omega)).to ?_
  rintro _ _ ⟨y, l6, rfl, rfl, hy, hl6⟩
  simp_arith
  have hR1 : R201.length = 201 := by rw [← hR, List.length_replicate]
  have hRo : ∀ x ∈ R201, OddP x := fun x hx => by
    rw [← hR] at hx
    rw [List.eq_of_mem_replicate hx]
    exact ⟨okW2 (okT_tup fun x hx => by cases hx) rfl, rp2 (rpm (rp_tuple (L := 0) (N := 0) (k := 0) (fun x hx => by cases hx) (by simp)) (by decide) (by decide)) (rpm (rp_small (by decide)) (by decide) (by decide))⟩
  have hFo : ∀ x ∈ F.map encF, OddP x := fun x hx => by
    obtain ⟨q, hq, rfl⟩ := List.mem_map.mp hx
    obtain ⟨h1, h2, h3, h4⟩ := hFq q hq
    exact oddP_F hm8 (by omega) h2 (log2_small (by omega))
  have hGo : ∀ x ∈ (F.map fun q => (q.1, 100000000000000000000000000000000000000000000000000000000000 - q.2)).map encF, OddP x := fun x hx => by
    obtain ⟨q', hq', rfl⟩ := List.mem_map.mp hx
    obtain ⟨q, hq, rfl⟩ := List.mem_map.mp hq'
    obtain ⟨h1, h2, h3, h4⟩ := hFq q hq
    refine oddP_F hm8 (by show q.1.length ≤ 4; omega) h2 ?_
    show (100000000000000000000000000000000000000000000000000000000000 - q.2).natAbs.log2 < 1920
    refine (Nat.log2_lt (by omega)).mpr ?_
    exact Nat.lt_of_lt_of_le (show _ < 2 ^ 200 by have : (2 : Nat) ^ 200 = 1606938044258990275541962092341162602522202993782792835301376 := by decide +kernel
                                                  omega) (Nat.pow_le_pow_right (by decide) (by decide))
  obtain ⟨O, eO, hO⟩ := Lib.at_of (L := [PyData.none, .tuple (F.map encF), dictD true [], .str (Str.ofString "x"), .int 0, .list R201]) (Q := ThgOk) (y := y) (fun d hd => by
    simp only [List.mem_cons, List.not_mem_nil, or_false] at hd
    rcases hd with rfl | rfl | rfl | rfl | rfl | rfl
    · exact thg_flat rfl nofun ⟨_, rp_none.repr (by decide) (by decide)⟩
    · exact thg_flat rfl nofun ⟨_, (rp_tuple (L := 40) (N := 40000) (k := 3) (fun x hx => (hFo x hx).rep) (by rw [List.length_map]; omega)).repr (by decide) (by decide)⟩
    · exact thg_flat rfl nofun ⟨_, repr_d⟩
    · exact thg_flat rfl nofun ⟨_, (rp_str _ (by decide +kernel)).repr (by decide) (by decide +kernel)⟩
    · exact thg_flat rfl nofun ⟨_, (rp_small (by decide)).repr (by decide) (by decide)⟩
    · exact ⟨okF_list (by omega) fun x hx => (hRo x hx).ok, _, (rp_list (L := 201) (N := 40000) (k := 3) (fun x hx => (hRo x hx).rep) (by omega)).repr (by decide) (by decide)⟩) (by simp; omega)
  simp_arith [eO]
  have hall : ∀ d ∈ [PyData.list (F.map encF), .list ((F.map fun q => (q.1, 100000000000000000000000000000000000000000000000000000000000 - q.2)).map encF), .list B, O, .list (F.map encF).reverse], ThgOk d := fun d hd => by
    simp only [List.mem_cons, List.not_mem_nil, or_false] at hd
    rcases hd with rfl | rfl | rfl | rfl | rfl
    · exact thg_list (by rw [List.length_map]; omega) hFo
    · exact thg_list (by rw [List.length_map, List.length_map]; omega) hGo
    · exact thg_list (by omega) hBo
    · exact hO
    · exact thg_list (by rw [List.length_reverse, List.length_map]; omega) fun x hx => hFo x (List.mem_reverse.mp hx)
  generalize (PyData.list ((F.map fun q => (q.1, 100000000000000000000000000000000000000000000000000000000000 - q.2)).map encF)) = G at hall ⊢
  refine wp_turnsD (fun pre q => ∃ (x7 x8 x9 x10 : Ev.Slot), q = [.lst l6, .sh (.int m), .sh (.int z), .sh (.list (F.map encF)), .sh (.list B), .sh G, .sh O, x7, x8, x9, x10, .non, .non]) ⟨_, _, _, _, rfl⟩ ?_ ?_
  · rintro pre d post q e ⟨x7, x8, x9, x10, rfl⟩
    obtain ⟨hok, zs, hzs⟩ := hall d (by rw [e]; simp)
    simp_arith [hzs]
    refine wp_turns PyData.int (fun pre q => ∃ (x9 x10 : Ev.Slot), q = [.lst l6, .sh (.int m), .sh (.int z), .sh (.list (F.map encF)), .sh (.list B), .sh G, .sh O, .sh d, .sh (.str zs), x9, x10, .non, .non]) [0, 1] ⟨_, _, rfl⟩ ?_ ?_
    · rintro pre k post q e2 ⟨x9, x10, rfl⟩
      have hk : 0 ≤ k ∧ k ≤ 1 := by
        have : k ∈ [(0 : Int), 1] := by rw [e2]; simp
        simp only [List.mem_cons, List.not_mem_nil, or_false] at this
        omega
      simp_arith
      refine (hD (m : Int) ((z : Int) + k) d hok (by omega) (by omega)).to ?_
      rintro _ _ ⟨rfl, rfl⟩
      simp_arith
      refine (hTd (m : Int) ((z : Int) + k) d hok).to ?_
      rintro _ _ ⟨rfl, rfl⟩
      simp_arith [pNe_due, hzs, pNe_str]
      exact ⟨_, _, rfl⟩
    · rintro q ⟨x9, x10, rfl⟩
      simp_arith
      refine (hD ((m : Int) - 1) (z : Int) d hok (by omega) (by omega)).to ?_
      rintro _ _ ⟨rfl, rfl⟩
      simp_arith
      refine ⟨fun h1 => ?_, fun h1 => ⟨_, _, _, _, rfl⟩⟩
      refine (hTd ((m : Int) - 1) (z : Int) d hok).to ?_
      rintro _ _ ⟨rfl, rfl⟩
      simp_arith [pNe_due]
      exact ⟨_, _, _, _, rfl⟩
  · rintro q ⟨x7, x8, x9, x10, rfl⟩
    simp_arith
    exact ⟨_, rfl⟩
theorem law_choicesW {fu : Nat} {nm : Nat → Str} {Phi : Nat → Ro → FR} : ChwS 2 (runF fu Phi (f_law_choices nm)) := by
  intro m' s hs2 hm30
  obtain ⟨m, hm', h0, h1⟩ : ∃ m : Int, (m' : Int) = m ∧ 0 ≤ m ∧ m ≤ 30 := ⟨(m' : Int), rfl, by omega, by omega⟩
  rw [hm']
  unfold f_law_choices
  refine wp_fn rfl rfl ?_
  unfold b_law_choices
  simp_arith
  refine wp_rng (fun k q => ∃ x2 x3 x4 x5, q = [.sh (.int m), .sh (.int s), x2, x3, x4, x5, .non] ∧ (x2 = .lst ((chs m k 0).map encT))) ⟨_, _, _, _, rfl, rfl⟩ ?_ ?_
  · rintro k q hk ⟨x2, x3, x4, x5, rfl, rfl⟩
    simp_arith
    refine wp_turns encT (fun pre q => ∃ y5, q = [.sh (.int m), .sh (.int s), .sh (.list ((chs m k 0).map encT)), .sh (.int (0 + (k : Int))), .lst ((pre.flatMap (ext m)).map encT), y5, .non]) (chs m k 0) ⟨_, rfl⟩ ?_ ?_
    · rintro pre t post q e ⟨y5, rfl⟩
      have hr := (mem_chs.mp (show t ∈ chs m k 0 by rw [e]; simp)).2
      have hl := rise_length hr (by omega)
      have hlast : -1 ≤ (-1 :: t).getLast (by simp) ∧ (-1 :: t).getLast (by simp) < m := by
        rcases List.mem_cons.mp (List.getLast_mem (l := -1 :: t) (by simp)) with h | h
        · omega
        · have := rise_lt hr _ h; omega
      have hsub : ((pre ++ [t]).flatMap (ext m)).length ≤ 8388608 := by
        refine Nat.le_trans ?_ (chs_8m h1 (show k + 1 ≤ 8 by omega))
        rw [chs_ext0, e]
        simp only [List.flatMap_append, List.length_append, List.flatMap_cons, List.flatMap_nil, List.length_nil]
        omega
      simp_arith [pListT, atI_last, rngL_eq]
      refine wp_compM PyData.int (fun x => some (encT (t ++ [x]))) _ (fun x hx => ?_) ?_
      · simp_arith [pAddTs]
      · simp_arith
        have ef : (rng ((-1 :: t).getLast (by simp) + 1) m).filterMap (fun x => some (encT (t ++ [x]))) = (ext m t).map encT := by
          unfold ext
          rw [List.map_map, ← List.filterMap_eq_map]
          rfl
        have hf : (pre ++ [t]).flatMap (ext m) = pre.flatMap (ext m) ++ ext m t := by simp
        rw [hf, List.length_append] at hsub
        rw [ef, hf, List.map_append]
        exact ⟨small_of (by simp only [List.length_map]; omega), _, rfl⟩
    · rintro q ⟨y5, rfl⟩
      simp_arith
      refine ⟨_, _, _, _, rfl, ?_⟩
      rw [chs_ext0]
  · rintro q ⟨x2, x3, x4, x5, rfl, rfl⟩
    simp_arith
structure Ch2 (P : Ro → FR) : Prop where
  chs : ChsS P
  chw : ChwS 2 P
theorem law_ok {fu ch pl ri td : Nat} {Phi : Nat → Ro → FR} (hC : Ch2 (Phi ch)) (hP : PoolS (Phi pl)) (hR : RightS (Phi ri)) (hTd : ToldS (Phi td)) : LawS (runF fu Phi (f_law ch pl ri td)) := by
  intro ns hn
  refine wp_fn rfl rfl ?_
  unfold b_law
  obtain ⟨cnt, ec, hc1, hc2⟩ := cnt_of ns 20 (by decide)
  simp_arith
  rw [show ((20 : Nat) : Int) = 20 from rfl] at ec
  rw [ec]
  simp_arith
  refine wp_rng (lo := 0) (fun _ q => ∃ x, q = [.sh (scrD ns), x, .non, .non]) ⟨_, rfl⟩ ?_ ?_
  · rintro k q hk ⟨x, rfl⟩
    rw [Int.zero_add]
    simp_arith
    refine (hP ns k (by omega) hn).to ?_
    rintro _ _ ⟨l, rfl, rfl, hl⟩
    simp_arith
    refine (hR l hl).to ?_
    rintro _ _ ⟨rfl, x, rfl⟩
    simp_arith
    exact ⟨_, rfl⟩
  · rintro q ⟨x, rfl⟩
    simp_arith
    have hC' : WpF (Phi ch [.sh (.int 30), .sh (.int 2)]) (fun v o => v = .lst ((chs 30 2 0).map encT) ∧ o = [.sh (.int 30), .sh (.int 2)]) noE := hC.chw 30 2 (by decide) (by decide)
    refine hC'.to ?_
    rintro _ _ ⟨rfl, rfl⟩
    simp_arith
    refine wp_compM encT (fun t => some (encF (t, 1))) (chs 30 2 0) (fun t _ => ?_) ?_
    · simp_arith
      rfl
    have hlen : (chs 30 2 0).length = 435 := chs_cN 2 30 30 0 rfl
    have hnd : (chs 30 2 0).Nodup := chs_nodup 2 0
    have hF : (chs 30 2 0).filterMap (fun t => some (encF (t, 1))) = ((chs 30 2 0).map fun t => (t, (1 : Int))).map encF := by rw [fm_some, List.map_map]; rfl
    rw [hF]
    generalize hL : ((chs 30 2 0).map fun t => (t, (1 : Int))) = L
    have hLl : L.length = 435 := by rw [← hL, List.length_map, hlen]
    have hLn : (L.map (·.1)).Nodup := by rw [← hL, List.map_map, show ((fun x : List Int × Int => x.1) ∘ fun t : List Int => (t, (1 : Int))) = id from rfl, List.map_id]; exact hnd
    have hLm : ∀ q ∈ L, q.1 ∈ chs ((30 : Nat) : Int) 2 0 := fun q hq => by
      rw [← hL] at hq
      obtain ⟨t, ht, rfl⟩ := List.mem_map.mp hq
      exact ht
    have hok : ∀ k, okFam (.list ((L.take k).map encF)) := fun k => okF_list (by rw [List.length_map, List.length_take]; omega) fun x hx => by
      obtain ⟨q, _, rfl⟩ := List.mem_map.mp hx
      exact okW2 (okT_T _) rfl
    have d1 : dueL 30 2 (.list ((L.take 200).map encF)) = [sG] := by
      unfold dueL
      have : famAt 30 2 (.list ((L.take 200).map encF)) = none := fam_none (n := 30) (z := 2) (by rw [List.length_take]; omega) (by rw [List.map_take]; exact hLn.sublist (List.take_sublist _ _)) fun q hq => hLm q (List.mem_of_mem_take hq)
      rw [this]
    have d2 : dueL 30 2 (.list ((L.take 201).map encF)) = [sN, .none] := by
      unfold dueL
      have : famAt 30 2 (.list ((L.take 201).map encF)) = some .none := if_pos (by rw [List.length_map, List.length_take]; omega)
      rw [this]
    have s1 : pSl false true [.list (L.map encF), .int 200] = some (.lst ((L.take 200).map encF)) := by
      rw [List.map_take]; exact pSlLhi (k := 200)
    have s2 : pSl false true [.list (L.map encF), .int 201] = some (.lst ((L.take 201).map encF)) := by
      rw [List.map_take]; exact pSlLhi (k := 201)
    have q1 : pEq [.list [sG], .list [sG]] = some (.sh (.bool true)) := by
      have hg : PyData.strOk (Str.ofString "good") = true := by decide +kernel
      have hsh : shp (.list [sG]) = true := shp_of (k := 3) (by simp [PyData.canLay0, PyData.canLayAll0, hg]) (by simp [PyData.depth, PyData.depthAll]) (by decide)
      rw [pEq_of hsh hsh]; simp [PyData.eqv, PyData.eqvAll]
    have q2 : pEq [.list [sN, .none], .list [sN, .none]] = some (.sh (.bool true)) := by
      have hg : PyData.strOk (Str.ofString "no") = true := by decide +kernel
      have hsh : shp (.list [sN, .none]) = true := shp_of (k := 3) (by simp [PyData.canLay0, PyData.canLayAll0, hg]) (by simp [PyData.depth, PyData.depthAll]) (by decide)
      rw [pEq_of hsh hsh]; simp [PyData.eqv, PyData.eqvAll]
    simp_arith [s1]
    refine (hTd 30 2 _ (hok 200)).to ?_
    rintro _ _ ⟨rfl, rfl⟩
    simp_arith [d1, q1, s2]
    refine (hTd 30 2 _ (hok 201)).to ?_
    rintro _ _ ⟨rfl, rfl⟩
    simp_arith [d2, q2]
theorem at0 (k : Nat) : WhS (run FU T (k + 1) 0) := by rw [run_fn T_0]; exact is_whole_ok
theorem at1 (k : Nat) : WiS (run FU T (k + 2) 1) := by rw [run_fn T_1]; exact is_within_ok (at0 (k + 0))
theorem at2 (k : Nat) : RisS (run FU T (k + 3) 2) := by rw [run_fn T_2]; exact is_rising_ok (at1 (k + 0))
theorem at3 (k : Nat) : LotS (run FU T (k + 4) 3) := by rw [run_fn T_3]; exact is_lot_ok (at2 (k + 0))
theorem at4 (k : Nat) : WrBS (run FU T (k + 5) 4) := by rw [run_fn T_4]; exact is_worthy_all (at3 (k + 0)) (at0 (k + 3))
theorem at5 (k : Nat) : LfbS (run FU T (k + 6) 5) := by rw [run_fn T_5]; exact look_at_family_all (at4 (k + 0))
theorem at6 (k : Nat) : PoolS (run FU T (k + 1) 6) := by rw [run_fn T_6]; exact pool_ok
theorem at7 (k : Nat) : TakeS (run FU T (k + 1) 7) := by rw [run_fn T_7]; exact take_ok
theorem at8 (k : Nat) : Ch2 (run FU T (k + 1) 8) := by rw [run_fn T_8]; exact ⟨law_choices_ok, law_choicesW⟩
theorem at9 (k : Nat) : WorthS (run FU T (k + 2) 9) := by rw [run_fn T_9]; exact worth_ok (at7 (k + 0))
theorem at10 (k : Nat) : FamS (run FU T (k + 3) 10) := by rw [run_fn T_10]; exact family_ok (at8 (k + 1)).chs (at7 (k + 1)) (at9 (k + 0))
theorem at11 (k : Nat) : WrLS (run FU T (k + 1) 11) := by rw [run_fn T_11]; exact law_worthy_ok
theorem at12 (k : Nat) : DueS (run FU T (k + 2) 12) := by rw [run_fn T_12]; exact law_due_ok (at11 (k + 0))
theorem at13 (k : Nat) : ToldS (run FU T (k + 7) 13) := by rw [run_fn T_13]; exact law_told_ok (at5 (k + 0))
theorem at14 (k : Nat) : OddS (run FU T (k + 2) 14) := by rw [run_fn T_14]; exact law_odd_ok (at7 (k + 0))
theorem at15 (k : Nat) : BenS (run FU T (k + 3) 15) := by rw [run_fn T_15]; exact law_bent_ok (at14 (k + 0)) (at7 (k + 1))
theorem at16 (k : Nat) : RightS (run FU T (k + 8) 16) := by rw [run_fn T_16]; exact right_ok (at15 (k + 4)) (at12 (k + 5)) (at10 (k + 4)) (at7 (k + 6)) (at13 (k + 0))
theorem at17 (k : Nat) : LawS (run FU T (k + 9) 17) := by rw [run_fn T_17]; exact law_ok (at8 (k + 7)) (at6 (k + 7)) (at16 (k + 0)) (at13 (k + 1))
theorem hrun : ∀ ns : List Int, ns.length ≤ 63 → ∃ outs, run FU T 40 17 [.sh (scrD ns)] = .ret (.sh (.bool true)) outs := by
  intro ns hn
  obtain ⟨s, o, e, rfl⟩ := (at17 31 ns hn).ret
  exact ⟨o, e⟩
end K06
end

section
set_option Elab.async false
set_option linter.all false
set_option maxRecDepth 100000
set_option maxHeartbeats 8000000
namespace K06
open PySem L2 Ev

def top (i : Nat) : Stmt := PySem.Challenge.pw_fewstand_k06_families_looked_at.main.body.getD i (.Pass ⟨0, 0, 0, 0⟩)
def tx : Tx := ⟨[(Str.ofString "is_whole"), (Str.ofString "is_within"), (Str.ofString "is_rising"), (Str.ofString "is_lot"), (Str.ofString "is_worthy"), (Str.ofString "look_at_family"), (Str.ofString "_law_pool"), (Str.ofString "_law_take"), (Str.ofString "_law_choices"), (Str.ofString "_law_worth"), (Str.ofString "_law_family"), (Str.ofString "_law_is_worthy"), (Str.ofString "_law_due"), (Str.ofString "_law_told"), (Str.ofString "_law_odd"), (Str.ofString "_law_bent"), (Str.ofString "_law_right"), (Str.ofString "law")], [((Str.ofString "MOST_LOTS"), (.int 200))], [((Str.ofString "ValueError"), [0, 2, 14, 15]), ((Str.ofString "LotError"), [0, 2, 14, 15]), ((Str.ofString "NoLot"), [2]), ((Str.ofString "NoFamily"), [14]), ((Str.ofString "NoPairs"), [15])], [((Str.ofString "NoFamily"), 14, "at")], [], [], [], true⟩
def prg : Prg := ⟨tx⟩
def ad (K : PySem.W.Frag) (x : Str) : Addr := match PySem.W.nsIn K mainGlobals x with | some (some (.ref a)) => a | _ => 0
abbrev ers (K : PySem.W.Frag) : Errs := ⟨fun i => ad K (([(Str.ofString "LotError"), (Str.ofString "NoNumber"), (Str.ofString "NoLot"), (Str.ofString "NoSize"), (Str.ofString "NoNames"), (Str.ofString "TooMany"), (Str.ofString "NoWeb"), (Str.ofString "NoPlan"), (Str.ofString "Twice"), (Str.ofString "NoMove"), (Str.ofString "NoText"), (Str.ofString "NoRow"), (Str.ofString "NoName"), (Str.ofString "Unlike"), (Str.ofString "NoFamily"), (Str.ofString "NoPairs"), (Str.ofString "NoMachine")] : List Str).getD i (Str.ofString "")), [0, 2, 14, 15], fun i => ad K (([(Str.ofString "Lean"), (Str.ofString "Keeper"), (Str.ofString "Desk"), (Str.ofString "Kept")] : List Str).getD i (Str.ofString "")), fun i => ad K (tx.names.getD i (Str.ofString "")), 18⟩
abbrev s0 : Stmt := top 6
abbrev N0 : List Str := [(Str.ofString "thing")]
abbrev P0 : List Str := [(Str.ofString "thing")]
theorem sc0 : FnScope N0 P0 (defScope s0) := ⟨rfl, rfl, rfl, by decide +kernel, rfl, by decide +kernel, by decide +kernel⟩
theorem ok0 : okSs tx N0 (defScope s0) (fun _ => true) Lib.f_is_whole.body (defBody s0) = true := by decide +kernel
theorem mu0 : (Lib.f_is_whole.muts.all fun i => decide (i ∉ asgds Lib.f_is_whole.body)) = true := by decide +kernel
abbrev s1 : Stmt := top 7
abbrev N1 : List Str := [(Str.ofString "thing"), (Str.ofString "least"), (Str.ofString "most")]
abbrev P1 : List Str := [(Str.ofString "thing"), (Str.ofString "least"), (Str.ofString "most")]
theorem sc1 : FnScope N1 P1 (defScope s1) := ⟨rfl, rfl, rfl, by decide +kernel, rfl, by decide +kernel, by decide +kernel⟩
theorem ok1 : okSs tx N1 (defScope s1) (fun _ => true) (Lib.f_is_within 0).body (defBody s1) = true := by decide +kernel
theorem mu1 : ((Lib.f_is_within 0).muts.all fun i => decide (i ∉ asgds (Lib.f_is_within 0).body)) = true := by decide +kernel
abbrev s2 : Stmt := top 10
abbrev N2 : List Str := [(Str.ofString "many"), (Str.ofString "thing"), (Str.ofString "last"), (Str.ofString "one")]
abbrev P2 : List Str := [(Str.ofString "many"), (Str.ofString "thing")]
theorem sc2 : FnScope N2 P2 (defScope s2) := ⟨rfl, rfl, rfl, by decide +kernel, rfl, by decide +kernel, by decide +kernel⟩
theorem ok2 : okSs tx N2 (defScope s2) (fun _ => true) (Lib.f_is_rising 1).body (defBody s2) = true := by decide +kernel
theorem mu2 : ((Lib.f_is_rising 1).muts.all fun i => decide (i ∉ asgds (Lib.f_is_rising 1).body)) = true := by decide +kernel
abbrev s3 : Stmt := top 11
abbrev N3 : List Str := [(Str.ofString "many"), (Str.ofString "size"), (Str.ofString "thing")]
abbrev P3 : List Str := [(Str.ofString "many"), (Str.ofString "size"), (Str.ofString "thing")]
theorem sc3 : FnScope N3 P3 (defScope s3) := ⟨rfl, rfl, rfl, by decide +kernel, rfl, by decide +kernel, by decide +kernel⟩
theorem ok3 : okSs tx N3 (defScope s3) (fun _ => true) (Lib.f_is_lot 2).body (defBody s3) = true := by decide +kernel
theorem mu3 : ((Lib.f_is_lot 2).muts.all fun i => decide (i ∉ asgds (Lib.f_is_lot 2).body)) = true := by decide +kernel
abbrev s4 : Stmt := top 12
abbrev N4 : List Str := [(Str.ofString "many"), (Str.ofString "size"), (Str.ofString "thing")]
abbrev P4 : List Str := [(Str.ofString "many"), (Str.ofString "size"), (Str.ofString "thing")]
theorem sc4 : FnScope N4 P4 (defScope s4) := ⟨rfl, rfl, rfl, by decide +kernel, rfl, by decide +kernel, by decide +kernel⟩
theorem ok4 : okSs tx N4 (defScope s4) (fun _ => true) (Lib.f_is_worthy 3 0).body (defBody s4) = true := by decide +kernel
theorem mu4 : ((Lib.f_is_worthy 3 0).muts.all fun i => decide (i ∉ asgds (Lib.f_is_worthy 3 0).body)) = true := by decide +kernel
abbrev s5 : Stmt := top 13
abbrev N5 : List Str := [(Str.ofString "many"), (Str.ofString "size"), (Str.ofString "thing"), (Str.ofString "seen"), (Str.ofString "at"), (Str.ofString "one")]
abbrev P5 : List Str := [(Str.ofString "many"), (Str.ofString "size"), (Str.ofString "thing")]
theorem sc5 : FnScope N5 P5 (defScope s5) := ⟨rfl, rfl, rfl, by decide +kernel, rfl, by decide +kernel, by decide +kernel⟩
theorem ok5 : okSs tx N5 (defScope s5) (fun _ => true) (Lib.f_look_at_family 4).body (defBody s5) = true := by decide +kernel
theorem mu5 : ((Lib.f_look_at_family 4).muts.all fun i => decide (i ∉ asgds (Lib.f_look_at_family 4).body)) = true := by decide +kernel
abbrev s6 : Stmt := top 15
abbrev N6 : List Str := [(Str.ofString "_law_script"), (Str.ofString "_law_k"), (Str.ofString "_law_cell"), (Str.ofString "_law_seed")]
abbrev P6 : List Str := [(Str.ofString "_law_script"), (Str.ofString "_law_k")]
theorem sc6 : FnScope N6 P6 (defScope s6) := ⟨rfl, rfl, rfl, by decide +kernel, rfl, by decide +kernel, by decide +kernel⟩
theorem ok6 : okSs tx N6 (defScope s6) (fun _ => true) Lib.f_law_pool.body (defBody s6) = true := by decide +kernel
theorem mu6 : (Lib.f_law_pool.muts.all fun i => decide (i ∉ asgds Lib.f_law_pool.body)) = true := by decide +kernel
abbrev s7 : Stmt := top 16
abbrev N7 : List Str := [(Str.ofString "_law_pool_here"), (Str.ofString "_law_many"), (Str.ofString "_law_found")]
abbrev P7 : List Str := [(Str.ofString "_law_pool_here"), (Str.ofString "_law_many")]
theorem sc7 : FnScope N7 P7 (defScope s7) := ⟨rfl, rfl, rfl, by decide +kernel, rfl, by decide +kernel, by decide +kernel⟩
theorem ok7 : okSs tx N7 (defScope s7) (fun _ => true) Lib.f_law_take.body (defBody s7) = true := by decide +kernel
theorem mu7 : (Lib.f_law_take.muts.all fun i => decide (i ∉ asgds Lib.f_law_take.body)) = true := by decide +kernel
abbrev s8 : Stmt := top 17
abbrev N8 : List Str := [(Str.ofString "_law_many"), (Str.ofString "_law_some"), (Str.ofString "_law_found"), (Str.ofString "_law_turn"), (Str.ofString "_law_more"), (Str.ofString "_law_one"), (Str.ofString "_law_place")]
abbrev P8 : List Str := [(Str.ofString "_law_many"), (Str.ofString "_law_some")]
theorem sc8 : FnScope N8 P8 (defScope s8) := ⟨rfl, rfl, rfl, by decide +kernel, rfl, by decide +kernel, by decide +kernel⟩
theorem ok8 : okSs tx N8 (defScope s8) (fun _ => true) (Lib.f_law_choices (fun i => ([Str.ofString "_law_place"] : List Str).getD i (Str.ofString ""))).body (defBody s8) = true := by decide +kernel
theorem mu8 : ((Lib.f_law_choices (fun i => ([Str.ofString "_law_place"] : List Str).getD i (Str.ofString ""))).muts.all fun i => decide (i ∉ asgds (Lib.f_law_choices (fun i => ([Str.ofString "_law_place"] : List Str).getD i (Str.ofString ""))).body)) = true := by decide +kernel
abbrev s9 : Stmt := top 18
abbrev N9 : List Str := [(Str.ofString "_law_pool_here"), (Str.ofString "_law_way")]
abbrev P9 : List Str := [(Str.ofString "_law_pool_here")]
theorem sc9 : FnScope N9 P9 (defScope s9) := ⟨rfl, rfl, rfl, by decide +kernel, rfl, by decide +kernel, by decide +kernel⟩
theorem ok9 : okSs tx N9 (defScope s9) (fun _ => true) (Lib.f_law_worth 7).body (defBody s9) = true := by decide +kernel
theorem mu9 : ((Lib.f_law_worth 7).muts.all fun i => decide (i ∉ asgds (Lib.f_law_worth 7).body)) = true := by decide +kernel
abbrev s10 : Stmt := top 19
abbrev N10 : List Str := [(Str.ofString "_law_pool_here"), (Str.ofString "_law_many"), (Str.ofString "_law_size"), (Str.ofString "_law_most"), (Str.ofString "_law_left"), (Str.ofString "_law_found"), (Str.ofString "_law_turn")]
abbrev P10 : List Str := [(Str.ofString "_law_pool_here"), (Str.ofString "_law_many"), (Str.ofString "_law_size"), (Str.ofString "_law_most")]
theorem sc10 : FnScope N10 P10 (defScope s10) := ⟨rfl, rfl, rfl, by decide +kernel, rfl, by decide +kernel, by decide +kernel⟩
theorem ok10 : okSs tx N10 (defScope s10) (fun _ => true) (Lib.f_law_family 8 7 9).body (defBody s10) = true := by decide +kernel
theorem mu10 : ((Lib.f_law_family 8 7 9).muts.all fun i => decide (i ∉ asgds (Lib.f_law_family 8 7 9).body)) = true := by decide +kernel
abbrev s11 : Stmt := top 20
abbrev N11 : List Str := [(Str.ofString "_law_many"), (Str.ofString "_law_size"), (Str.ofString "_law_thing"), (Str.ofString "_law_lot"), (Str.ofString "_law_one"), (Str.ofString "_law_at")]
abbrev P11 : List Str := [(Str.ofString "_law_many"), (Str.ofString "_law_size"), (Str.ofString "_law_thing")]
theorem sc11 : FnScope N11 P11 (defScope s11) := ⟨rfl, rfl, rfl, by decide +kernel, rfl, by decide +kernel, by decide +kernel⟩
theorem ok11 : okSs tx N11 (defScope s11) (fun _ => true) f_law_is_worthy.body (defBody s11) = true := by decide +kernel
theorem mu11 : (f_law_is_worthy.muts.all fun i => decide (i ∉ asgds f_law_is_worthy.body)) = true := by decide +kernel
abbrev s12 : Stmt := top 21
abbrev N12 : List Str := [(Str.ofString "_law_many"), (Str.ofString "_law_size"), (Str.ofString "_law_thing"), (Str.ofString "_law_seen"), (Str.ofString "_law_at"), (Str.ofString "_law_one")]
abbrev P12 : List Str := [(Str.ofString "_law_many"), (Str.ofString "_law_size"), (Str.ofString "_law_thing")]
theorem sc12 : FnScope N12 P12 (defScope s12) := ⟨rfl, rfl, rfl, by decide +kernel, rfl, by decide +kernel, by decide +kernel⟩
theorem ok12 : okSs tx N12 (defScope s12) (fun _ => true) (f_law_due 11).body (defBody s12) = true := by decide +kernel
theorem mu12 : ((f_law_due 11).muts.all fun i => decide (i ∉ asgds (f_law_due 11).body)) = true := by decide +kernel
abbrev s13 : Stmt := top 22
abbrev N13 : List Str := [(Str.ofString "_law_many"), (Str.ofString "_law_size"), (Str.ofString "_law_thing"), (Str.ofString "_law_found"), (Str.ofString "e")]
abbrev P13 : List Str := [(Str.ofString "_law_many"), (Str.ofString "_law_size"), (Str.ofString "_law_thing")]
theorem sc13 : FnScope N13 P13 (defScope s13) := ⟨rfl, rfl, rfl, by decide +kernel, rfl, by decide +kernel, by decide +kernel⟩
theorem ok13 : okSs tx N13 (defScope s13) (fun _ => true) (f_law_told 5).body (defBody s13) = true := by decide +kernel
theorem mu13 : ((f_law_told 5).muts.all fun i => decide (i ∉ asgds (f_law_told 5).body)) = true := by decide +kernel
abbrev s14 : Stmt := top 23
abbrev N14 : List Str := [(Str.ofString "_law_pool_here"), (Str.ofString "_law_many"), (Str.ofString "_law_one"), (Str.ofString "_law_some"), (Str.ofString "_law_lot"), (Str.ofString "_law_worth_here"), (Str.ofString "_law_thing")]
abbrev P14 : List Str := [(Str.ofString "_law_pool_here"), (Str.ofString "_law_many"), (Str.ofString "_law_one")]
theorem sc14 : FnScope N14 P14 (defScope s14) := ⟨rfl, rfl, rfl, by decide +kernel, rfl, by decide +kernel, by decide +kernel⟩
theorem ok14 : okSs tx N14 (defScope s14) (fun _ => true) (f_law_odd 7).body (defBody s14) = true := by decide +kernel
theorem mu14 : ((f_law_odd 7).muts.all fun i => decide (i ∉ asgds (f_law_odd 7).body)) = true := by decide +kernel
abbrev s15 : Stmt := top 24
abbrev N15 : List Str := [(Str.ofString "_law_pool_here"), (Str.ofString "_law_many"), (Str.ofString "_law_family_here"), (Str.ofString "_law_at"), (Str.ofString "_law_lot"), (Str.ofString "_law_worth_here")]
abbrev P15 : List Str := [(Str.ofString "_law_pool_here"), (Str.ofString "_law_many"), (Str.ofString "_law_family_here")]
theorem sc15 : FnScope N15 P15 (defScope s15) := ⟨rfl, rfl, rfl, by decide +kernel, rfl, by decide +kernel, by decide +kernel⟩
theorem ok15 : okSs tx N15 (defScope s15) (fun _ => true) (f_law_bent 14 7).body (defBody s15) = true := by decide +kernel
theorem mu15 : ((f_law_bent 14 7).muts.all fun i => decide (i ∉ asgds (f_law_bent 14 7).body)) = true := by decide +kernel
abbrev s16 : Stmt := top 25
abbrev N16 : List Str := [(Str.ofString "_law_pool_here"), (Str.ofString "_law_many"), (Str.ofString "_law_size"), (Str.ofString "_law_family_here"), (Str.ofString "_law_bent_here"), (Str.ofString "_law_great"), (Str.ofString "_law_odd_here"), (Str.ofString "_law_thing"), (Str.ofString "_law_kept"), (Str.ofString "_law_less"), (Str.ofString "_law_due_here"), (Str.ofString "_law_lot"), (Str.ofString "_law_worth_here")]
abbrev P16 : List Str := [(Str.ofString "_law_pool_here")]
theorem sc16 : FnScope N16 P16 (defScope s16) := ⟨rfl, rfl, rfl, by decide +kernel, rfl, by decide +kernel, by decide +kernel⟩
theorem ok16 : okSs tx N16 (defScope s16) (fun _ => true) (f_law_right 15 12 10 7 13).body (defBody s16) = true := by decide +kernel
theorem mu16 : ((f_law_right 15 12 10 7 13).muts.all fun i => decide (i ∉ asgds (f_law_right 15 12 10 7 13).body)) = true := by decide +kernel
abbrev s17 : Stmt := top 26
abbrev N17 : List Str := [(Str.ofString "_law_script"), (Str.ofString "_law_k"), (Str.ofString "_law_many"), (Str.ofString "_law_lot")]
abbrev P17 : List Str := [(Str.ofString "_law_script")]
theorem sc17 : FnScope N17 P17 (defScope s17) := ⟨rfl, rfl, rfl, by decide +kernel, rfl, by decide +kernel, by decide +kernel⟩
theorem ok17 : okSs tx N17 (defScope s17) (fun _ => true) (f_law 8 6 16 13).body (defBody s17) = true := by decide +kernel
theorem mu17 : ((f_law 8 6 16 13).muts.all fun i => decide (i ∉ asgds (f_law 8 6 16 13).body)) = true := by decide +kernel
abbrev sI2 : Stmt := clsStmt (top 3)
theorem sci2 : FnScope [(Str.ofString "self"), (Str.ofString "at")] [(Str.ofString "self"), (Str.ofString "at")] (defScope sI2) := ⟨rfl, rfl, rfl, by decide +kernel, rfl, by decide +kernel, by decide +kernel⟩
theorem ini2 : iniForm (Str.ofString "at") (Str.ofString "LotError") (defScope sI2) (defBody sI2) = true := by decide +kernel
theorem all_mk {l : PySem.W.OpenLaw} {w : World} {K : PySem.W.Frag} {h : Heap} {mg : Str → Option Value} {fa f0 f1 f2 f3 f4 f5 f6 f7 f8 f9 f10 f11 f12 f13 f14 f15 f16 f17 e0 e1 e2 e3 : Addr} (X : K.In h) (G : h.Ns mainGlobals mg) (hfa : mg (Str.ofString "law") = some (.ref fa))
    {od0 an0 od1 an1 od2 an2 od3 an3 od4 an4 od5 an5 od6 an6 od7 an7 od8 an8 od9 an9 od10 an10 od11 an11 od12 an12 od13 an13 od14 an14 od15 an15 od16 an16 od17 an17 : Option Addr} {sl0 sl1 sl2 sl3 sl4 sl5 sl6 sl7 sl8 sl9 sl10 sl11 sl12 sl13 sl14 sl15 sl16 sl17 : Array (Option Value)} {oc0 kV0 dc0 pm0 cd0 ct0 oc1 kV1 dc1 pm1 cd1 ct1 oc2 kV2 dc2 pm2 cd2 ct2 oc3 kV3 dc3 pm3 cd3 ct3 oc4 kV4 dc4 pm4 cd4 ct4 oc5 kV5 dc5 pm5 cd5 ct5 oc6 kV6 dc6 pm6 cd6 ct6 oc7 kV7 dc7 pm7 cd7 ct7 oc8 kV8 dc8 pm8 cd8 ct8 oc9 kV9 dc9 pm9 cd9 ct9 oc10 kV10 dc10 pm10 cd10 ct10 oc11 kV11 dc11 pm11 cd11 ct11 oc12 kV12 dc12 pm12 cd12 ct12 oc13 kV13 dc13 pm13 cd13 ct13 oc14 kV14 dc14 pm14 cd14 ct14 oc15 kV15 dc15 pm15 cd15 ct15 oc16 kV16 dc16 pm16 cd16 ct16 oc17 kV17 dc17 pm17 cd17 ct17 : Value}
    {g2 jN2 : Addr} {ioc2 ikV2 idc2 ipm2 icd2 ict2 : Value} {iod2 ian2 : Option Addr} {isl2 : Array (Option Value)} {jn2 jq2 : Str} {jb2 ju2 : List Value} {js2 : List Str} {ja2 : Bool} {jc2 : Option Bool} {jd2 : Option Addr} {j0_2 j1_2 j2_2 j3_2 j5_2 : Option Value}
    {tk0 : Tok}
    (a0 : PySem.W.nsIn K mainGlobals (Str.ofString "is_whole") = some (some (.ref f0))) (l0 : K.lookup f0 = some ⟨oc0, od0, .func (PySem.W.fnOf (Str.ofString "is_whole") (Str.ofString "is_whole") (defArgs s0) (defBody s0) (defScope s0) .none kV0 dc0 pm0 an0 cd0 ct0), sl0⟩) (c0 : PySem.W.codeIn K cd0 (Str.ofString "is_whole") = true) (k0 : PySem.W.keepIn K (.ref f0) = true)
    (a1 : PySem.W.nsIn K mainGlobals (Str.ofString "is_within") = some (some (.ref f1))) (l1 : K.lookup f1 = some ⟨oc1, od1, .func (PySem.W.fnOf (Str.ofString "is_within") (Str.ofString "is_within") (defArgs s1) (defBody s1) (defScope s1) .none kV1 dc1 pm1 an1 cd1 ct1), sl1⟩) (c1 : PySem.W.codeIn K cd1 (Str.ofString "is_within") = true) (k1 : PySem.W.keepIn K (.ref f1) = true)
    (a2 : PySem.W.nsIn K mainGlobals (Str.ofString "is_rising") = some (some (.ref f2))) (l2 : K.lookup f2 = some ⟨oc2, od2, .func (PySem.W.fnOf (Str.ofString "is_rising") (Str.ofString "is_rising") (defArgs s2) (defBody s2) (defScope s2) .none kV2 dc2 pm2 an2 cd2 ct2), sl2⟩) (c2 : PySem.W.codeIn K cd2 (Str.ofString "is_rising") = true) (k2 : PySem.W.keepIn K (.ref f2) = true)
    (a3 : PySem.W.nsIn K mainGlobals (Str.ofString "is_lot") = some (some (.ref f3))) (l3 : K.lookup f3 = some ⟨oc3, od3, .func (PySem.W.fnOf (Str.ofString "is_lot") (Str.ofString "is_lot") (defArgs s3) (defBody s3) (defScope s3) .none kV3 dc3 pm3 an3 cd3 ct3), sl3⟩) (c3 : PySem.W.codeIn K cd3 (Str.ofString "is_lot") = true) (k3 : PySem.W.keepIn K (.ref f3) = true)
    (a4 : PySem.W.nsIn K mainGlobals (Str.ofString "is_worthy") = some (some (.ref f4))) (l4 : K.lookup f4 = some ⟨oc4, od4, .func (PySem.W.fnOf (Str.ofString "is_worthy") (Str.ofString "is_worthy") (defArgs s4) (defBody s4) (defScope s4) .none kV4 dc4 pm4 an4 cd4 ct4), sl4⟩) (c4 : PySem.W.codeIn K cd4 (Str.ofString "is_worthy") = true) (k4 : PySem.W.keepIn K (.ref f4) = true)
    (a5 : PySem.W.nsIn K mainGlobals (Str.ofString "look_at_family") = some (some (.ref f5))) (l5 : K.lookup f5 = some ⟨oc5, od5, .func (PySem.W.fnOf (Str.ofString "look_at_family") (Str.ofString "look_at_family") (defArgs s5) (defBody s5) (defScope s5) .none kV5 dc5 pm5 an5 cd5 ct5), sl5⟩) (c5 : PySem.W.codeIn K cd5 (Str.ofString "look_at_family") = true) (k5 : PySem.W.keepIn K (.ref f5) = true)
    (a6 : PySem.W.nsIn K mainGlobals (Str.ofString "_law_pool") = some (some (.ref f6))) (l6 : K.lookup f6 = some ⟨oc6, od6, .func (PySem.W.fnOf (Str.ofString "_law_pool") (Str.ofString "_law_pool") (defArgs s6) (defBody s6) (defScope s6) .none kV6 dc6 pm6 an6 cd6 ct6), sl6⟩) (c6 : PySem.W.codeIn K cd6 (Str.ofString "_law_pool") = true) (k6 : PySem.W.keepIn K (.ref f6) = true)
    (a7 : PySem.W.nsIn K mainGlobals (Str.ofString "_law_take") = some (some (.ref f7))) (l7 : K.lookup f7 = some ⟨oc7, od7, .func (PySem.W.fnOf (Str.ofString "_law_take") (Str.ofString "_law_take") (defArgs s7) (defBody s7) (defScope s7) .none kV7 dc7 pm7 an7 cd7 ct7), sl7⟩) (c7 : PySem.W.codeIn K cd7 (Str.ofString "_law_take") = true) (k7 : PySem.W.keepIn K (.ref f7) = true)
    (a8 : PySem.W.nsIn K mainGlobals (Str.ofString "_law_choices") = some (some (.ref f8))) (l8 : K.lookup f8 = some ⟨oc8, od8, .func (PySem.W.fnOf (Str.ofString "_law_choices") (Str.ofString "_law_choices") (defArgs s8) (defBody s8) (defScope s8) .none kV8 dc8 pm8 an8 cd8 ct8), sl8⟩) (c8 : PySem.W.codeIn K cd8 (Str.ofString "_law_choices") = true) (k8 : PySem.W.keepIn K (.ref f8) = true)
    (a9 : PySem.W.nsIn K mainGlobals (Str.ofString "_law_worth") = some (some (.ref f9))) (l9 : K.lookup f9 = some ⟨oc9, od9, .func (PySem.W.fnOf (Str.ofString "_law_worth") (Str.ofString "_law_worth") (defArgs s9) (defBody s9) (defScope s9) .none kV9 dc9 pm9 an9 cd9 ct9), sl9⟩) (c9 : PySem.W.codeIn K cd9 (Str.ofString "_law_worth") = true) (k9 : PySem.W.keepIn K (.ref f9) = true)
    (a10 : PySem.W.nsIn K mainGlobals (Str.ofString "_law_family") = some (some (.ref f10))) (l10 : K.lookup f10 = some ⟨oc10, od10, .func (PySem.W.fnOf (Str.ofString "_law_family") (Str.ofString "_law_family") (defArgs s10) (defBody s10) (defScope s10) .none kV10 dc10 pm10 an10 cd10 ct10), sl10⟩) (c10 : PySem.W.codeIn K cd10 (Str.ofString "_law_family") = true) (k10 : PySem.W.keepIn K (.ref f10) = true)
    (a11 : PySem.W.nsIn K mainGlobals (Str.ofString "_law_is_worthy") = some (some (.ref f11))) (l11 : K.lookup f11 = some ⟨oc11, od11, .func (PySem.W.fnOf (Str.ofString "_law_is_worthy") (Str.ofString "_law_is_worthy") (defArgs s11) (defBody s11) (defScope s11) .none kV11 dc11 pm11 an11 cd11 ct11), sl11⟩) (c11 : PySem.W.codeIn K cd11 (Str.ofString "_law_is_worthy") = true) (k11 : PySem.W.keepIn K (.ref f11) = true)
    (a12 : PySem.W.nsIn K mainGlobals (Str.ofString "_law_due") = some (some (.ref f12))) (l12 : K.lookup f12 = some ⟨oc12, od12, .func (PySem.W.fnOf (Str.ofString "_law_due") (Str.ofString "_law_due") (defArgs s12) (defBody s12) (defScope s12) .none kV12 dc12 pm12 an12 cd12 ct12), sl12⟩) (c12 : PySem.W.codeIn K cd12 (Str.ofString "_law_due") = true) (k12 : PySem.W.keepIn K (.ref f12) = true)
    (a13 : PySem.W.nsIn K mainGlobals (Str.ofString "_law_told") = some (some (.ref f13))) (l13 : K.lookup f13 = some ⟨oc13, od13, .func (PySem.W.fnOf (Str.ofString "_law_told") (Str.ofString "_law_told") (defArgs s13) (defBody s13) (defScope s13) .none kV13 dc13 pm13 an13 cd13 ct13), sl13⟩) (c13 : PySem.W.codeIn K cd13 (Str.ofString "_law_told") = true) (k13 : PySem.W.keepIn K (.ref f13) = true)
    (a14 : PySem.W.nsIn K mainGlobals (Str.ofString "_law_odd") = some (some (.ref f14))) (l14 : K.lookup f14 = some ⟨oc14, od14, .func (PySem.W.fnOf (Str.ofString "_law_odd") (Str.ofString "_law_odd") (defArgs s14) (defBody s14) (defScope s14) .none kV14 dc14 pm14 an14 cd14 ct14), sl14⟩) (c14 : PySem.W.codeIn K cd14 (Str.ofString "_law_odd") = true) (k14 : PySem.W.keepIn K (.ref f14) = true)
    (a15 : PySem.W.nsIn K mainGlobals (Str.ofString "_law_bent") = some (some (.ref f15))) (l15 : K.lookup f15 = some ⟨oc15, od15, .func (PySem.W.fnOf (Str.ofString "_law_bent") (Str.ofString "_law_bent") (defArgs s15) (defBody s15) (defScope s15) .none kV15 dc15 pm15 an15 cd15 ct15), sl15⟩) (c15 : PySem.W.codeIn K cd15 (Str.ofString "_law_bent") = true) (k15 : PySem.W.keepIn K (.ref f15) = true)
    (a16 : PySem.W.nsIn K mainGlobals (Str.ofString "_law_right") = some (some (.ref f16))) (l16 : K.lookup f16 = some ⟨oc16, od16, .func (PySem.W.fnOf (Str.ofString "_law_right") (Str.ofString "_law_right") (defArgs s16) (defBody s16) (defScope s16) .none kV16 dc16 pm16 an16 cd16 ct16), sl16⟩) (c16 : PySem.W.codeIn K cd16 (Str.ofString "_law_right") = true) (k16 : PySem.W.keepIn K (.ref f16) = true)
    (a17 : PySem.W.nsIn K mainGlobals (Str.ofString "law") = some (some (.ref f17))) (l17 : K.lookup f17 = some ⟨oc17, od17, .func (PySem.W.fnOf (Str.ofString "law") (Str.ofString "law") (defArgs s17) (defBody s17) (defScope s17) .none kV17 dc17 pm17 an17 cd17 ct17), sl17⟩) (c17 : PySem.W.codeIn K cd17 (Str.ofString "law") = true) (k17 : PySem.W.keepIn K (.ref f17) = true)
    (v0 : PySem.W.nsIn K mainGlobals (Str.ofString "MOST_LOTS") = some (some (.int 200 tk0)))
    (ea0 : PySem.W.nsIn K mainGlobals (Str.ofString "LotError") = some (some (.ref e0)))
    (ea1 : PySem.W.nsIn K mainGlobals (Str.ofString "NoLot") = some (some (.ref e1)))
    (ea2 : PySem.W.nsIn K mainGlobals (Str.ofString "NoFamily") = some (some (.ref e2)))
    (ea3 : PySem.W.nsIn K mainGlobals (Str.ofString "NoPairs") = some (some (.ref e3)))
    (xg0 : PySem.W.findIn K (.ref e0) (Str.ofString "__getattribute__") = some (some (.builtin "BaseException.__getattribute__")))
    (xk0 : PySem.W.findIn K (.ref e0) (Str.ofString "__getattr__") = some none)
    (xs0 : PySem.W.subIn K (.ref e0) (.type "BaseException") = some true)
    (xd0 : PySem.W.hasDictIn K e0 = true)
    (xa0 : PySem.W.findIn K (.ref e0) (Str.ofString "__class__") = some (some (.builtin "object.__class__")))
    (xm0 : PySem.W.mroIn K e0 (.type "object") = some true)
    (fa0 : PySem.W.findIn K (.ref e0) (Str.ofString "at") = some none)
    (fp0 : PySem.W.findIn K (.ref e0) (Str.ofString "part") = some none)
    (kt0_0 : PySem.W.kitOne K (.ref e0) (.type "ValueError") = some true)
    (xo0_0 : PySem.W.exmOne K (.ref e0) (.type "ValueError") = some true)
    (kt0_1 : PySem.W.kitOne K (.ref e0) (.ref e0) = some true)
    (xo0_1 : PySem.W.exmOne K (.ref e0) (.ref e0) = some true)
    (kt0_2 : PySem.W.kitOne K (.ref e0) (.ref e1) = some false)
    (xo0_2 : PySem.W.exmOne K (.ref e0) (.ref e1) = some false)
    (kt0_3 : PySem.W.kitOne K (.ref e0) (.ref e2) = some false)
    (xo0_3 : PySem.W.exmOne K (.ref e0) (.ref e2) = some false)
    (kt0_4 : PySem.W.kitOne K (.ref e0) (.ref e3) = some false)
    (xo0_4 : PySem.W.exmOne K (.ref e0) (.ref e3) = some false)
    (xg1 : PySem.W.findIn K (.ref e1) (Str.ofString "__getattribute__") = some (some (.builtin "BaseException.__getattribute__")))
    (xk1 : PySem.W.findIn K (.ref e1) (Str.ofString "__getattr__") = some none)
    (xs1 : PySem.W.subIn K (.ref e1) (.type "BaseException") = some true)
    (xd1 : PySem.W.hasDictIn K e1 = true)
    (xa1 : PySem.W.findIn K (.ref e1) (Str.ofString "__class__") = some (some (.builtin "object.__class__")))
    (xm1 : PySem.W.mroIn K e1 (.type "object") = some true)
    (fa1 : PySem.W.findIn K (.ref e1) (Str.ofString "at") = some none)
    (fp1 : PySem.W.findIn K (.ref e1) (Str.ofString "part") = some none)
    (kt1_0 : PySem.W.kitOne K (.ref e1) (.type "ValueError") = some true)
    (xo1_0 : PySem.W.exmOne K (.ref e1) (.type "ValueError") = some true)
    (kt1_1 : PySem.W.kitOne K (.ref e1) (.ref e0) = some true)
    (xo1_1 : PySem.W.exmOne K (.ref e1) (.ref e0) = some true)
    (kt1_2 : PySem.W.kitOne K (.ref e1) (.ref e1) = some true)
    (xo1_2 : PySem.W.exmOne K (.ref e1) (.ref e1) = some true)
    (kt1_3 : PySem.W.kitOne K (.ref e1) (.ref e2) = some false)
    (xo1_3 : PySem.W.exmOne K (.ref e1) (.ref e2) = some false)
    (kt1_4 : PySem.W.kitOne K (.ref e1) (.ref e3) = some false)
    (xo1_4 : PySem.W.exmOne K (.ref e1) (.ref e3) = some false)
    (xg2 : PySem.W.findIn K (.ref e2) (Str.ofString "__getattribute__") = some (some (.builtin "BaseException.__getattribute__")))
    (xk2 : PySem.W.findIn K (.ref e2) (Str.ofString "__getattr__") = some none)
    (xs2 : PySem.W.subIn K (.ref e2) (.type "BaseException") = some true)
    (xd2 : PySem.W.hasDictIn K e2 = true)
    (xa2 : PySem.W.findIn K (.ref e2) (Str.ofString "__class__") = some (some (.builtin "object.__class__")))
    (xm2 : PySem.W.mroIn K e2 (.type "object") = some true)
    (fa2 : PySem.W.findIn K (.ref e2) (Str.ofString "at") = some none)
    (fp2 : PySem.W.findIn K (.ref e2) (Str.ofString "part") = some none)
    (rk2 : PySem.W.keepIn K (.ref e2) = true)
    (rt2 : PySem.W.typeIn K (.ref e2) = some (.type "type"))
    (sa2 : PySem.W.findIn K (.ref e2) (Str.ofString "__setattr__") = some (some (.builtin "object.__setattr__")))
    (in2 : PySem.W.findIn K (.ref e2) (Str.ofString "__init__") = some (some (.ref g2)))
    (it2 : PySem.W.typeIn K (.ref g2) = some (.type "function"))
    (il2 : K.lookup g2 = some ⟨ioc2, iod2, .func (PySem.W.fnOf (Str.ofString "__init__") (Str.ofString "NoFamily.__init__") (defArgs sI2) (defBody sI2) (defScope sI2) .none ikV2 idc2 ipm2 ian2 icd2 ict2), isl2⟩)
    (ic2 : PySem.W.codeIn K icd2 (Str.ofString "NoFamily.__init__") = true)
    (ik2 : PySem.W.keepIn K (.ref g2) = true)
    (xl2 : K.lookup e2 = some (PySem.excClassObj jn2 jq2 e2 jN2 jb2 [.ref e0, .type "ValueError", .type "Exception", .type "BaseException", .type "object"] true js2 ju2 ja2 jc2 jd2 j0_2 j1_2 j2_2 j3_2 j5_2 "ValueError.__new__"))
    (kt2_0 : PySem.W.kitOne K (.ref e2) (.type "ValueError") = some true)
    (xo2_0 : PySem.W.exmOne K (.ref e2) (.type "ValueError") = some true)
    (kt2_1 : PySem.W.kitOne K (.ref e2) (.ref e0) = some true)
    (xo2_1 : PySem.W.exmOne K (.ref e2) (.ref e0) = some true)
    (kt2_2 : PySem.W.kitOne K (.ref e2) (.ref e1) = some false)
    (xo2_2 : PySem.W.exmOne K (.ref e2) (.ref e1) = some false)
    (kt2_3 : PySem.W.kitOne K (.ref e2) (.ref e2) = some true)
    (xo2_3 : PySem.W.exmOne K (.ref e2) (.ref e2) = some true)
    (kt2_4 : PySem.W.kitOne K (.ref e2) (.ref e3) = some false)
    (xo2_4 : PySem.W.exmOne K (.ref e2) (.ref e3) = some false)
    (xg3 : PySem.W.findIn K (.ref e3) (Str.ofString "__getattribute__") = some (some (.builtin "BaseException.__getattribute__")))
    (xk3 : PySem.W.findIn K (.ref e3) (Str.ofString "__getattr__") = some none)
    (xs3 : PySem.W.subIn K (.ref e3) (.type "BaseException") = some true)
    (xd3 : PySem.W.hasDictIn K e3 = true)
    (xa3 : PySem.W.findIn K (.ref e3) (Str.ofString "__class__") = some (some (.builtin "object.__class__")))
    (xm3 : PySem.W.mroIn K e3 (.type "object") = some true)
    (fa3 : PySem.W.findIn K (.ref e3) (Str.ofString "at") = some none)
    (fp3 : PySem.W.findIn K (.ref e3) (Str.ofString "part") = some none)
    (kt3_0 : PySem.W.kitOne K (.ref e3) (.type "ValueError") = some true)
    (xo3_0 : PySem.W.exmOne K (.ref e3) (.type "ValueError") = some true)
    (kt3_1 : PySem.W.kitOne K (.ref e3) (.ref e0) = some true)
    (xo3_1 : PySem.W.exmOne K (.ref e3) (.ref e0) = some true)
    (kt3_2 : PySem.W.kitOne K (.ref e3) (.ref e1) = some false)
    (xo3_2 : PySem.W.exmOne K (.ref e3) (.ref e1) = some false)
    (kt3_3 : PySem.W.kitOne K (.ref e3) (.ref e2) = some false)
    (xo3_3 : PySem.W.exmOne K (.ref e3) (.ref e2) = some false)
    (kt3_4 : PySem.W.kitOne K (.ref e3) (.ref e3) = some true)
    (xo3_4 : PySem.W.exmOne K (.ref e3) (.ref e3) = some true)
    (xn : PySem.W.specialIn K (.builtin "object.__class__") (Str.ofString "__get__") = some (some (.builtin "getset_descriptor.__get__")))
    (xt : PySem.W.takesIn K (.builtin "object.__class__") = some true)
    (ty0_0 : PySem.W.kitOne K (.type "NoneType") (.type "ValueError") = some false)
    (ty1_0 : PySem.W.kitOne K (.type "bool") (.type "ValueError") = some false)
    (ty2_0 : PySem.W.kitOne K (.type "int") (.type "ValueError") = some false)
    (ty3_0 : PySem.W.kitOne K (.type "str") (.type "ValueError") = some false)
    (ty4_0 : PySem.W.kitOne K (.type "list") (.type "ValueError") = some false)
    (ty5_0 : PySem.W.kitOne K (.type "tuple") (.type "ValueError") = some false)
    (ty0_1 : PySem.W.kitOne K (.type "NoneType") (.ref e0) = some false)
    (ty1_1 : PySem.W.kitOne K (.type "bool") (.ref e0) = some false)
    (ty2_1 : PySem.W.kitOne K (.type "int") (.ref e0) = some false)
    (ty3_1 : PySem.W.kitOne K (.type "str") (.ref e0) = some false)
    (ty4_1 : PySem.W.kitOne K (.type "list") (.ref e0) = some false)
    (ty5_1 : PySem.W.kitOne K (.type "tuple") (.ref e0) = some false)
    (ty0_2 : PySem.W.kitOne K (.type "NoneType") (.ref e1) = some false)
    (ty1_2 : PySem.W.kitOne K (.type "bool") (.ref e1) = some false)
    (ty2_2 : PySem.W.kitOne K (.type "int") (.ref e1) = some false)
    (ty3_2 : PySem.W.kitOne K (.type "str") (.ref e1) = some false)
    (ty4_2 : PySem.W.kitOne K (.type "list") (.ref e1) = some false)
    (ty5_2 : PySem.W.kitOne K (.type "tuple") (.ref e1) = some false)
    (ty0_3 : PySem.W.kitOne K (.type "NoneType") (.ref e2) = some false)
    (ty1_3 : PySem.W.kitOne K (.type "bool") (.ref e2) = some false)
    (ty2_3 : PySem.W.kitOne K (.type "int") (.ref e2) = some false)
    (ty3_3 : PySem.W.kitOne K (.type "str") (.ref e2) = some false)
    (ty4_3 : PySem.W.kitOne K (.type "list") (.ref e2) = some false)
    (ty5_3 : PySem.W.kitOne K (.type "tuple") (.ref e2) = some false)
    (ty0_4 : PySem.W.kitOne K (.type "NoneType") (.ref e3) = some false)
    (ty1_4 : PySem.W.kitOne K (.type "bool") (.ref e3) = some false)
    (ty2_4 : PySem.W.kitOne K (.type "int") (.ref e3) = some false)
    (ty3_4 : PySem.W.kitOne K (.type "str") (.ref e3) = some false)
    (ty4_4 : PySem.W.kitOne K (.type "list") (.ref e3) = some false)
    (ty5_4 : PySem.W.kitOne K (.type "tuple") (.ref e3) = some false)
    (br : PySem.W.readsIn K e0 (.type "type") = true)
    (bi : PySem.W.findCls K (.ref e0) (.type "type") (Str.ofString "__init__") = some (.val (.builtin "ValueError.__init__")))
    (bg : PySem.W.specialIn K (.ref e0) (Str.ofString "__getattribute__") = some (some (.builtin "type.__getattribute__")))
    (zV : PySem.W.nsIn K mainGlobals (Str.ofString "ValueError") = some none)
    (z0 : PySem.W.nsIn K mainGlobals (Str.ofString "len") = some none)
    (z1 : PySem.W.nsIn K mainGlobals (Str.ofString "max") = some none)
    (z2 : PySem.W.nsIn K mainGlobals (Str.ofString "min") = some none)
    (z3 : PySem.W.nsIn K mainGlobals (Str.ofString "list") = some none)
    (z4 : PySem.W.nsIn K mainGlobals (Str.ofString "tuple") = some none)
    (z5 : PySem.W.nsIn K mainGlobals (Str.ofString "int") = some none)
    (z6 : PySem.W.nsIn K mainGlobals (Str.ofString "range") = some none)
    (z7 : PySem.W.nsIn K mainGlobals (Str.ofString "sorted") = some none)
    (z8 : PySem.W.nsIn K mainGlobals (Str.ofString "isinstance") = some none)
    (z9 : PySem.W.nsIn K mainGlobals (Str.ofString "bool") = some none)
    (z10 : PySem.W.nsIn K mainGlobals (Str.ofString "str") = some none)
    (z11 : PySem.W.nsIn K mainGlobals (Str.ofString "dict") = some none)
    (z12 : PySem.W.nsIn K mainGlobals (Str.ofString "sum") = some none)
    (z13 : PySem.W.nsIn K mainGlobals (Str.ofString "zip") = some none)
    (z14 : PySem.W.nsIn K mainGlobals (Str.ofString "enumerate") = some none)
    (z15 : PySem.W.nsIn K mainGlobals (Str.ofString "all") = some none)
    (z16 : PySem.W.nsIn K mainGlobals (Str.ofString "any") = some none)
    (z17 : PySem.W.nsIn K mainGlobals (Str.ofString "repr") = some none)
    (z18 : PySem.W.nsIn K mainGlobals (Str.ofString "set") = some none)
    : ∃ fd : FuncData, (∀ (s : Shared) (v : Value), BindsTo s fd ⟨[v], []⟩ [((Str.ofString "_law_script"), v)]) ∧ ∀ base : Heap, K.In base → base.Ns mainGlobals mg → FnG l.prog w K mg base (L2.CX l.prog w) 82 fa fd [(Str.ofString "_law_script")] (@spF (ers K) K (run FU T 40 17)) := by
  letI : Errs := ers K
  have d0 : Errs.ca 0 = e0 := by show ad K (Str.ofString "LotError") = e0; unfold ad; rw [ea0]
  have d1 : Errs.ca 2 = e1 := by show ad K (Str.ofString "NoLot") = e1; unfold ad; rw [ea1]
  have d2 : Errs.ca 14 = e2 := by show ad K (Str.ofString "NoFamily") = e2; unfold ad; rw [ea2]
  have d3 : Errs.ca 15 = e3 := by show ad K (Str.ofString "NoPairs") = e3; unfold ad; rw [ea3]
  have exs : ∀ c, c ∈ Errs.has → ExcC K (Errs.ca c) := by
    intro c h
    have h : c ∈ ([0, 2, 14, 15] : List Nat) := h
    simp only [List.mem_cons, List.not_mem_nil, or_false] at h
    rcases h with rfl | rfl | rfl | rfl
    · rw [d0]; exact ⟨xg0, xk0, xs0, xd0, xa0, xn, xt, xm0⟩
    · rw [d1]; exact ⟨xg1, xk1, xs1, xd1, xa1, xn, xt, xm1⟩
    · rw [d2]; exact ⟨xg2, xk2, xs2, xd2, xa2, xn, xt, xm2⟩
    · rw [d3]; exact ⟨xg3, xk3, xs3, xd3, xa3, xn, xt, xm3⟩
  have flds : ∀ c, c ∈ Errs.has → ∀ f ∈ ["at", "part"], PySem.W.findIn K (.ref (Errs.ca c)) (Str.ofString f) = some none := by
    intro c h f hf
    simp only [List.mem_cons, List.not_mem_nil, or_false] at hf
    have h : c ∈ ([0, 2, 14, 15] : List Nat) := h
    simp only [List.mem_cons, List.not_mem_nil, or_false] at h
    rcases h with rfl | rfl | rfl | rfl
    · rw [d0]; rcases hf with rfl | rfl <;> first | exact fa0 | exact fp0
    · rw [d1]; rcases hf with rfl | rfl <;> first | exact fa1 | exact fp1
    · rw [d2]; rcases hf with rfl | rfl <;> first | exact fa2 | exact fp2
    · rw [d3]; rcases hf with rfl | rfl <;> first | exact fa3 | exact fp3
  have ck0 : ClsK K (.type "ValueError") [0, 2, 14, 15] := by
    refine ⟨fun c h => ?_, fun t ht => ?_⟩
    · have h : c ∈ ([0, 2, 14, 15] : List Nat) := h
      simp only [List.mem_cons, List.not_mem_nil, or_false] at h
      rcases h with rfl | rfl | rfl | rfl
      · rw [d0]; exact kt0_0
      · rw [d1]; exact kt1_0
      · rw [d2]; exact kt2_0
      · rw [d3]; exact kt3_0
    · simp only [tys, List.mem_cons, List.not_mem_nil, or_false] at ht
      rcases ht with rfl | rfl | rfl | rfl | rfl | rfl <;> first | exact ty0_0 | exact ty1_0 | exact ty2_0 | exact ty3_0 | exact ty4_0 | exact ty5_0
  have cx0 : ∀ c, c ∈ Errs.has → PySem.W.exmOne K (.ref (Errs.ca c)) (.type "ValueError") = some (decide (c ∈ ([0, 2, 14, 15] : List Nat))) := by
    intro c h
    have h : c ∈ ([0, 2, 14, 15] : List Nat) := h
    simp only [List.mem_cons, List.not_mem_nil, or_false] at h
    rcases h with rfl | rfl | rfl | rfl
    · rw [d0]; exact xo0_0
    · rw [d1]; exact xo1_0
    · rw [d2]; exact xo2_0
    · rw [d3]; exact xo3_0
  have ck1 : ClsK K (.ref e0) [0, 2, 14, 15] := by
    refine ⟨fun c h => ?_, fun t ht => ?_⟩
    · have h : c ∈ ([0, 2, 14, 15] : List Nat) := h
      simp only [List.mem_cons, List.not_mem_nil, or_false] at h
      rcases h with rfl | rfl | rfl | rfl
      · rw [d0]; exact kt0_1
      · rw [d1]; exact kt1_1
      · rw [d2]; exact kt2_1
      · rw [d3]; exact kt3_1
    · simp only [tys, List.mem_cons, List.not_mem_nil, or_false] at ht
      rcases ht with rfl | rfl | rfl | rfl | rfl | rfl <;> first | exact ty0_1 | exact ty1_1 | exact ty2_1 | exact ty3_1 | exact ty4_1 | exact ty5_1
  have cx1 : ∀ c, c ∈ Errs.has → PySem.W.exmOne K (.ref (Errs.ca c)) (.ref e0) = some (decide (c ∈ ([0, 2, 14, 15] : List Nat))) := by
    intro c h
    have h : c ∈ ([0, 2, 14, 15] : List Nat) := h
    simp only [List.mem_cons, List.not_mem_nil, or_false] at h
    rcases h with rfl | rfl | rfl | rfl
    · rw [d0]; exact xo0_1
    · rw [d1]; exact xo1_1
    · rw [d2]; exact xo2_1
    · rw [d3]; exact xo3_1
  have ck2 : ClsK K (.ref e1) [2] := by
    refine ⟨fun c h => ?_, fun t ht => ?_⟩
    · have h : c ∈ ([0, 2, 14, 15] : List Nat) := h
      simp only [List.mem_cons, List.not_mem_nil, or_false] at h
      rcases h with rfl | rfl | rfl | rfl
      · rw [d0]; exact kt0_2
      · rw [d1]; exact kt1_2
      · rw [d2]; exact kt2_2
      · rw [d3]; exact kt3_2
    · simp only [tys, List.mem_cons, List.not_mem_nil, or_false] at ht
      rcases ht with rfl | rfl | rfl | rfl | rfl | rfl <;> first | exact ty0_2 | exact ty1_2 | exact ty2_2 | exact ty3_2 | exact ty4_2 | exact ty5_2
  have cx2 : ∀ c, c ∈ Errs.has → PySem.W.exmOne K (.ref (Errs.ca c)) (.ref e1) = some (decide (c ∈ ([2] : List Nat))) := by
    intro c h
    have h : c ∈ ([0, 2, 14, 15] : List Nat) := h
    simp only [List.mem_cons, List.not_mem_nil, or_false] at h
    rcases h with rfl | rfl | rfl | rfl
    · rw [d0]; exact xo0_2
    · rw [d1]; exact xo1_2
    · rw [d2]; exact xo2_2
    · rw [d3]; exact xo3_2
  have ck3 : ClsK K (.ref e2) [14] := by
    refine ⟨fun c h => ?_, fun t ht => ?_⟩
    · have h : c ∈ ([0, 2, 14, 15] : List Nat) := h
      simp only [List.mem_cons, List.not_mem_nil, or_false] at h
      rcases h with rfl | rfl | rfl | rfl
      · rw [d0]; exact kt0_3
      · rw [d1]; exact kt1_3
      · rw [d2]; exact kt2_3
      · rw [d3]; exact kt3_3
    · simp only [tys, List.mem_cons, List.not_mem_nil, or_false] at ht
      rcases ht with rfl | rfl | rfl | rfl | rfl | rfl <;> first | exact ty0_3 | exact ty1_3 | exact ty2_3 | exact ty3_3 | exact ty4_3 | exact ty5_3
  have cx3 : ∀ c, c ∈ Errs.has → PySem.W.exmOne K (.ref (Errs.ca c)) (.ref e2) = some (decide (c ∈ ([14] : List Nat))) := by
    intro c h
    have h : c ∈ ([0, 2, 14, 15] : List Nat) := h
    simp only [List.mem_cons, List.not_mem_nil, or_false] at h
    rcases h with rfl | rfl | rfl | rfl
    · rw [d0]; exact xo0_3
    · rw [d1]; exact xo1_3
    · rw [d2]; exact xo2_3
    · rw [d3]; exact xo3_3
  have ck4 : ClsK K (.ref e3) [15] := by
    refine ⟨fun c h => ?_, fun t ht => ?_⟩
    · have h : c ∈ ([0, 2, 14, 15] : List Nat) := h
      simp only [List.mem_cons, List.not_mem_nil, or_false] at h
      rcases h with rfl | rfl | rfl | rfl
      · rw [d0]; exact kt0_4
      · rw [d1]; exact kt1_4
      · rw [d2]; exact kt2_4
      · rw [d3]; exact kt3_4
    · simp only [tys, List.mem_cons, List.not_mem_nil, or_false] at ht
      rcases ht with rfl | rfl | rfl | rfl | rfl | rfl <;> first | exact ty0_4 | exact ty1_4 | exact ty2_4 | exact ty3_4 | exact ty4_4 | exact ty5_4
  have cx4 : ∀ c, c ∈ Errs.has → PySem.W.exmOne K (.ref (Errs.ca c)) (.ref e3) = some (decide (c ∈ ([15] : List Nat))) := by
    intro c h
    have h : c ∈ ([0, 2, 14, 15] : List Nat) := h
    simp only [List.mem_cons, List.not_mem_nil, or_false] at h
    rcases h with rfl | rfl | rfl | rfl
    · rw [d0]; exact xo0_4
    · rw [d1]; exact xo1_4
    · rw [d2]; exact xo2_4
    · rw [d3]; exact xo3_4
  have eo : ErrsOk K mg prg.tx := by
    refine ⟨exs, flds, fun x cs hx => ?_, fun x c hx => ?_, fun x c f hx hf => ?_⟩
    · simp only [prg, tx, List.lookup_cons, List.lookup_nil] at hx
      repeat' split at hx
      all_goals first | (cases hx; done) | skip
      · rename_i q; cases hx; rw [eq_of_beq q]; exact ⟨.ty "ValueError", .type "ValueError", .ty _, rfl, .inr ⟨PySem.W.mg_none_of X G zV, rfl, by decide⟩, ck0, cx0⟩
      · rename_i q; cases hx; rw [eq_of_beq q]; exact ⟨.ref e0, .ref e0, .own _, rfl, .inl (PySem.W.mg_of X G ea0), ck1, cx1⟩
      · rename_i q; cases hx; rw [eq_of_beq q]; exact ⟨.ref e1, .ref e1, .own _, rfl, .inl (PySem.W.mg_of X G ea1), ck2, cx2⟩
      · rename_i q; cases hx; rw [eq_of_beq q]; exact ⟨.ref e2, .ref e2, .own _, rfl, .inl (PySem.W.mg_of X G ea2), ck3, cx3⟩
      · rename_i q; cases hx; rw [eq_of_beq q]; exact ⟨.ref e3, .ref e3, .own _, rfl, .inl (PySem.W.mg_of X G ea3), ck4, cx4⟩
    · simp only [prg, tx, List.lookup_cons, List.lookup_nil] at hx
      repeat' split at hx
      all_goals first | (cases hx; done) | (simp at hx; done) | skip
    · simp only [prg, tx, List.lookup_cons, List.lookup_nil] at hx
      repeat' split at hx
      all_goals first | (cases hx; done) | (cases hx; exact absurd rfl hf) | skip
      · rename_i q; cases hx; rw [eq_of_beq q, d2]; exact ⟨by show 14 ∈ ([0, 2, 14, 15] : List Nat); decide, PySem.W.mg_of X G ea2, ⟨⟨_, _, _, _, _, _, _, _, _, _, _, _, _, _, _, xl2, by first | rfl | decide +kernel | simp [HandSPX.refsVE]⟩, sa2, xs2, rt2, rk2⟩, fa2, g2, e0, _, _, sI2, in2, it2, fun_mk (st := sI2) il2 ic2 ik2, sci2, ini2, ⟨PySem.W.mg_of X G ea0, br, bi, bg⟩, (fun_mk (st := sI2) il2 ic2 ik2).binds (ps := [(Str.ofString "self"), (Str.ofString "at")]) fun _ _ _ _ _ _ us hl => match us, hl with | [_, _], _ => rfl⟩
  have e := hfa.symm.trans (PySem.W.mg_of X G a17)
  cases e
  have F0 := fun_mk (st := s0) l0 c0 k0
  have b0 := F0.binds (ps := P0) fun _ _ _ _ _ _ us hl => match us, hl with | [_], _ => rfl
  have F1 := fun_mk (st := s1) l1 c1 k1
  have b1 := F1.binds (ps := P1) fun _ _ _ _ _ _ us hl => match us, hl with | [_, _, _], _ => rfl
  have F2 := fun_mk (st := s2) l2 c2 k2
  have b2 := F2.binds (ps := P2) fun _ _ _ _ _ _ us hl => match us, hl with | [_, _], _ => rfl
  have F3 := fun_mk (st := s3) l3 c3 k3
  have b3 := F3.binds (ps := P3) fun _ _ _ _ _ _ us hl => match us, hl with | [_, _, _], _ => rfl
  have F4 := fun_mk (st := s4) l4 c4 k4
  have b4 := F4.binds (ps := P4) fun _ _ _ _ _ _ us hl => match us, hl with | [_, _, _], _ => rfl
  have F5 := fun_mk (st := s5) l5 c5 k5
  have b5 := F5.binds (ps := P5) fun _ _ _ _ _ _ us hl => match us, hl with | [_, _, _], _ => rfl
  have F6 := fun_mk (st := s6) l6 c6 k6
  have b6 := F6.binds (ps := P6) fun _ _ _ _ _ _ us hl => match us, hl with | [_, _], _ => rfl
  have F7 := fun_mk (st := s7) l7 c7 k7
  have b7 := F7.binds (ps := P7) fun _ _ _ _ _ _ us hl => match us, hl with | [_, _], _ => rfl
  have F8 := fun_mk (st := s8) l8 c8 k8
  have b8 := F8.binds (ps := P8) fun _ _ _ _ _ _ us hl => match us, hl with | [_, _], _ => rfl
  have F9 := fun_mk (st := s9) l9 c9 k9
  have b9 := F9.binds (ps := P9) fun _ _ _ _ _ _ us hl => match us, hl with | [_], _ => rfl
  have F10 := fun_mk (st := s10) l10 c10 k10
  have b10 := F10.binds (ps := P10) fun _ _ _ _ _ _ us hl => match us, hl with | [_, _, _, _], _ => rfl
  have F11 := fun_mk (st := s11) l11 c11 k11
  have b11 := F11.binds (ps := P11) fun _ _ _ _ _ _ us hl => match us, hl with | [_, _, _], _ => rfl
  have F12 := fun_mk (st := s12) l12 c12 k12
  have b12 := F12.binds (ps := P12) fun _ _ _ _ _ _ us hl => match us, hl with | [_, _, _], _ => rfl
  have F13 := fun_mk (st := s13) l13 c13 k13
  have b13 := F13.binds (ps := P13) fun _ _ _ _ _ _ us hl => match us, hl with | [_, _, _], _ => rfl
  have F14 := fun_mk (st := s14) l14 c14 k14
  have b14 := F14.binds (ps := P14) fun _ _ _ _ _ _ us hl => match us, hl with | [_, _, _], _ => rfl
  have F15 := fun_mk (st := s15) l15 c15 k15
  have b15 := F15.binds (ps := P15) fun _ _ _ _ _ _ us hl => match us, hl with | [_, _, _], _ => rfl
  have F16 := fun_mk (st := s16) l16 c16 k16
  have b16 := F16.binds (ps := P16) fun _ _ _ _ _ _ us hl => match us, hl with | [_], _ => rfl
  have F17 := fun_mk (st := s17) l17 c17 k17
  have b17 := F17.binds (ps := P17) fun _ _ _ _ _ _ us hl => match us, hl with | [_], _ => rfl
  have blt : ∀ x ∈ bnames, mg x = none := by
    intro x hx
    simp only [bnames, List.mem_cons, List.not_mem_nil, or_false] at hx
    rcases hx with rfl | rfl | rfl | rfl | rfl | rfl | rfl | rfl | rfl | rfl | rfl | rfl | rfl | rfl | rfl | rfl | rfl | rfl | rfl
    · exact PySem.W.mg_none_of X G z0
    · exact PySem.W.mg_none_of X G z1
    · exact PySem.W.mg_none_of X G z2
    · exact PySem.W.mg_none_of X G z3
    · exact PySem.W.mg_none_of X G z4
    · exact PySem.W.mg_none_of X G z5
    · exact PySem.W.mg_none_of X G z6
    · exact PySem.W.mg_none_of X G z7
    · exact PySem.W.mg_none_of X G z8
    · exact PySem.W.mg_none_of X G z9
    · exact PySem.W.mg_none_of X G z10
    · exact PySem.W.mg_none_of X G z11
    · exact PySem.W.mg_none_of X G z12
    · exact PySem.W.mg_none_of X G z13
    · exact PySem.W.mg_none_of X G z14
    · exact PySem.W.mg_none_of X G z15
    · exact PySem.W.mg_none_of X G z16
    · exact PySem.W.mg_none_of X G z17
    · exact PySem.W.mg_none_of X G z18
  have csts : ∀ x d, tx.consts.lookup x = some d → ∃ u, mg x = some u ∧ match d with | .int j => ∃ t, u = .int j t | .str j => ∃ t, u = .str j t | _ => True := by
    intro x d hx
    simp only [tx, List.lookup_cons, List.lookup_nil] at hx
    repeat' split at hx
    all_goals first | (cases hx; done) | skip
    · rename_i q; cases hx; rw [eq_of_beq q]; exact ⟨_, PySem.W.mg_of X G v0, _, rfl⟩
  have fn0 : FnAt0 prg K Lib.f_is_whole f0 := ⟨(Str.ofString "is_whole"), (Str.ofString "is_whole"), s0, _, P0, N0, F0, sc0, ok0, rfl, rfl, mu0, b0⟩
  have fn1 : FnAt0 prg K (Lib.f_is_within 0) f1 := ⟨(Str.ofString "is_within"), (Str.ofString "is_within"), s1, _, P1, N1, F1, sc1, ok1, rfl, rfl, mu1, b1⟩
  have fn2 : FnAt0 prg K (Lib.f_is_rising 1) f2 := ⟨(Str.ofString "is_rising"), (Str.ofString "is_rising"), s2, _, P2, N2, F2, sc2, ok2, rfl, rfl, mu2, b2⟩
  have fn3 : FnAt0 prg K (Lib.f_is_lot 2) f3 := ⟨(Str.ofString "is_lot"), (Str.ofString "is_lot"), s3, _, P3, N3, F3, sc3, ok3, rfl, rfl, mu3, b3⟩
  have fn4 : FnAt0 prg K (Lib.f_is_worthy 3 0) f4 := ⟨(Str.ofString "is_worthy"), (Str.ofString "is_worthy"), s4, _, P4, N4, F4, sc4, ok4, rfl, rfl, mu4, b4⟩
  have fn5 : FnAt0 prg K (Lib.f_look_at_family 4) f5 := ⟨(Str.ofString "look_at_family"), (Str.ofString "look_at_family"), s5, _, P5, N5, F5, sc5, ok5, rfl, rfl, mu5, b5⟩
  have fn6 : FnAt0 prg K Lib.f_law_pool f6 := ⟨(Str.ofString "_law_pool"), (Str.ofString "_law_pool"), s6, _, P6, N6, F6, sc6, ok6, rfl, rfl, mu6, b6⟩
  have fn7 : FnAt0 prg K Lib.f_law_take f7 := ⟨(Str.ofString "_law_take"), (Str.ofString "_law_take"), s7, _, P7, N7, F7, sc7, ok7, rfl, rfl, mu7, b7⟩
  have fn8 : FnAt0 prg K (Lib.f_law_choices (fun i => ([Str.ofString "_law_place"] : List Str).getD i (Str.ofString ""))) f8 := ⟨(Str.ofString "_law_choices"), (Str.ofString "_law_choices"), s8, _, P8, N8, F8, sc8, ok8, rfl, rfl, mu8, b8⟩
  have fn9 : FnAt0 prg K (Lib.f_law_worth 7) f9 := ⟨(Str.ofString "_law_worth"), (Str.ofString "_law_worth"), s9, _, P9, N9, F9, sc9, ok9, rfl, rfl, mu9, b9⟩
  have fn10 : FnAt0 prg K (Lib.f_law_family 8 7 9) f10 := ⟨(Str.ofString "_law_family"), (Str.ofString "_law_family"), s10, _, P10, N10, F10, sc10, ok10, rfl, rfl, mu10, b10⟩
  have fn11 : FnAt0 prg K f_law_is_worthy f11 := ⟨(Str.ofString "_law_is_worthy"), (Str.ofString "_law_is_worthy"), s11, _, P11, N11, F11, sc11, ok11, rfl, rfl, mu11, b11⟩
  have fn12 : FnAt0 prg K (f_law_due 11) f12 := ⟨(Str.ofString "_law_due"), (Str.ofString "_law_due"), s12, _, P12, N12, F12, sc12, ok12, rfl, rfl, mu12, b12⟩
  have fn13 : FnAt0 prg K (f_law_told 5) f13 := ⟨(Str.ofString "_law_told"), (Str.ofString "_law_told"), s13, _, P13, N13, F13, sc13, ok13, rfl, rfl, mu13, b13⟩
  have fn14 : FnAt0 prg K (f_law_odd 7) f14 := ⟨(Str.ofString "_law_odd"), (Str.ofString "_law_odd"), s14, _, P14, N14, F14, sc14, ok14, rfl, rfl, mu14, b14⟩
  have fn15 : FnAt0 prg K (f_law_bent 14 7) f15 := ⟨(Str.ofString "_law_bent"), (Str.ofString "_law_bent"), s15, _, P15, N15, F15, sc15, ok15, rfl, rfl, mu15, b15⟩
  have fn16 : FnAt0 prg K (f_law_right 15 12 10 7 13) f16 := ⟨(Str.ofString "_law_right"), (Str.ofString "_law_right"), s16, _, P16, N16, F16, sc16, ok16, rfl, rfl, mu16, b16⟩
  have fn17 : FnAt0 prg K (f_law 8 6 16 13) fa := ⟨(Str.ofString "law"), (Str.ofString "law"), s17, _, P17, N17, F17, sc17, ok17, rfl, rfl, mu17, b17⟩
  have cls : ClsAt prg K mg T := by
    refine ⟨fun x c f hx => ?_, fun c m f hx => ?_, fun c f hx => ?_⟩
    · cases hx
    · cases hx
    · cases hx
  have tab : ∀ (i : Nat) (x : Str), prg.tx.names[i]? = some x → ∃ F, T[i]? = some F ∧ FnAt prg K mg F x := by
    intro i x hx
    match i, hx with
    | 0, hx => cases hx; exact ⟨Lib.f_is_whole, rfl, _, fn0, PySem.W.mg_of X G a0, k0⟩
    | 1, hx => cases hx; exact ⟨(Lib.f_is_within 0), rfl, _, fn1, PySem.W.mg_of X G a1, k1⟩
    | 2, hx => cases hx; exact ⟨(Lib.f_is_rising 1), rfl, _, fn2, PySem.W.mg_of X G a2, k2⟩
    | 3, hx => cases hx; exact ⟨(Lib.f_is_lot 2), rfl, _, fn3, PySem.W.mg_of X G a3, k3⟩
    | 4, hx => cases hx; exact ⟨(Lib.f_is_worthy 3 0), rfl, _, fn4, PySem.W.mg_of X G a4, k4⟩
    | 5, hx => cases hx; exact ⟨(Lib.f_look_at_family 4), rfl, _, fn5, PySem.W.mg_of X G a5, k5⟩
    | 6, hx => cases hx; exact ⟨Lib.f_law_pool, rfl, _, fn6, PySem.W.mg_of X G a6, k6⟩
    | 7, hx => cases hx; exact ⟨Lib.f_law_take, rfl, _, fn7, PySem.W.mg_of X G a7, k7⟩
    | 8, hx => cases hx; exact ⟨(Lib.f_law_choices (fun i => ([Str.ofString "_law_place"] : List Str).getD i (Str.ofString ""))), rfl, _, fn8, PySem.W.mg_of X G a8, k8⟩
    | 9, hx => cases hx; exact ⟨(Lib.f_law_worth 7), rfl, _, fn9, PySem.W.mg_of X G a9, k9⟩
    | 10, hx => cases hx; exact ⟨(Lib.f_law_family 8 7 9), rfl, _, fn10, PySem.W.mg_of X G a10, k10⟩
    | 11, hx => cases hx; exact ⟨f_law_is_worthy, rfl, _, fn11, PySem.W.mg_of X G a11, k11⟩
    | 12, hx => cases hx; exact ⟨(f_law_due 11), rfl, _, fn12, PySem.W.mg_of X G a12, k12⟩
    | 13, hx => cases hx; exact ⟨(f_law_told 5), rfl, _, fn13, PySem.W.mg_of X G a13, k13⟩
    | 14, hx => cases hx; exact ⟨(f_law_odd 7), rfl, _, fn14, PySem.W.mg_of X G a14, k14⟩
    | 15, hx => cases hx; exact ⟨(f_law_bent 14 7), rfl, _, fn15, PySem.W.mg_of X G a15, k15⟩
    | 16, hx => cases hx; exact ⟨(f_law_right 15 12 10 7 13), rfl, _, fn16, PySem.W.mg_of X G a16, k16⟩
    | 17, hx => cases hx; exact ⟨(f_law 8 6 16 13), rfl, _, fn17, PySem.W.mg_of X G a17, k17⟩
    | n + 18, hx => cases hx
  have fvs : ∀ f x, prg.tx.names[f]? = some x → f < Errs.fn ∧ mg x = some (.ref (Errs.fa f)) := by
    intro i x hx
    have ad_mg : ∀ (y : Str) (f : Addr), PySem.W.nsIn K mainGlobals y = some (some (.ref f)) → mg y = some (.ref (ad K y)) := fun y f h => by
      have e : ad K y = f := by unfold ad; rw [h]
      rw [e]; exact PySem.W.mg_of X G h
    match i, hx with
    | 0, hx => cases hx; exact ⟨by show 0 < 18; decide, ad_mg _ _ a0⟩
    | 1, hx => cases hx; exact ⟨by show 1 < 18; decide, ad_mg _ _ a1⟩
    | 2, hx => cases hx; exact ⟨by show 2 < 18; decide, ad_mg _ _ a2⟩
    | 3, hx => cases hx; exact ⟨by show 3 < 18; decide, ad_mg _ _ a3⟩
    | 4, hx => cases hx; exact ⟨by show 4 < 18; decide, ad_mg _ _ a4⟩
    | 5, hx => cases hx; exact ⟨by show 5 < 18; decide, ad_mg _ _ a5⟩
    | 6, hx => cases hx; exact ⟨by show 6 < 18; decide, ad_mg _ _ a6⟩
    | 7, hx => cases hx; exact ⟨by show 7 < 18; decide, ad_mg _ _ a7⟩
    | 8, hx => cases hx; exact ⟨by show 8 < 18; decide, ad_mg _ _ a8⟩
    | 9, hx => cases hx; exact ⟨by show 9 < 18; decide, ad_mg _ _ a9⟩
    | 10, hx => cases hx; exact ⟨by show 10 < 18; decide, ad_mg _ _ a10⟩
    | 11, hx => cases hx; exact ⟨by show 11 < 18; decide, ad_mg _ _ a11⟩
    | 12, hx => cases hx; exact ⟨by show 12 < 18; decide, ad_mg _ _ a12⟩
    | 13, hx => cases hx; exact ⟨by show 13 < 18; decide, ad_mg _ _ a13⟩
    | 14, hx => cases hx; exact ⟨by show 14 < 18; decide, ad_mg _ _ a14⟩
    | 15, hx => cases hx; exact ⟨by show 15 < 18; decide, ad_mg _ _ a15⟩
    | 16, hx => cases hx; exact ⟨by show 16 < 18; decide, ad_mg _ _ a16⟩
    | 17, hx => cases hx; exact ⟨by show 17 < 18; decide, ad_mg _ _ a17⟩
    | n + 18, hx => cases hx
  have fnn : ∀ f, f < Errs.fn → ∃ x, prg.tx.names[f]? = some x := fun f h => ⟨_, List.getElem?_eq_getElem (show f < 18 from h)⟩
  refine ⟨PySem.W.fnOf (Str.ofString "law") (Str.ofString "law") (defArgs s17) (defBody s17) (defScope s17) .none kV17 dc17 pm17 an17 cd17 ct17, fun s v => .of_eq rfl, fun base _ _ => ?_⟩
  have ih := table_sound (P := prg) (fu := FU) (pr := l.prog) (w := w) (base := base) blt fvs fnn csts eo cls tab 39
  have q := fn_sound (P := prg) (fu := FU) (pr := l.prog) (w := w) (base := base) (k := 39) (Phi := run FU T 39) F17 sc17 ok17 rfl rfl (fun i q => of_decide_eq_true (List.all_eq_true.mp mu17 i q)) blt (fns_of tab ih) fvs fnn csts eo (obs_of cls ih)
  have er : run FU T 40 17 = runF FU (run FU T 39) (f_law 8 6 16 13) := by funext args; rfl
  rw [er]
  exact q
theorem walk {l : PySem.W.OpenLaw} {q : Program} {loose : List Str} {XP : (Str → Option Value) → Heap → Prop} {YP : World → Heap → Prop} {d : DefRec} {K : Params → PySem.W.Frag} (hn : l.most = some 63) (hdf : d.params.defaults = [])
    (hY : ∀ (w : World) (h : Heap), YP w h → (K w.params).In h)
    (hrun : ∀ ns : List Int, ns.length ≤ 63 → ∃ outs, run FU T 40 17 [.sh (scrD ns)] = .ret (.sh (.bool true)) outs)
    (F : ∀ (w : World) (mg : Str → Option Value) (fa : Addr) (h : Heap), (K w.params).In h → h.Ns mainGlobals mg → mg d.name = some (.ref fa) →
      ∃ fd : FuncData, (∀ (s : Shared) (u : Value), BindsTo s fd ⟨[u], []⟩ [((Str.ofString "_law_script"), u)]) ∧ ∀ base : Heap, (K w.params).In base → base.Ns mainGlobals mg → FnG l.prog w (K w.params) mg base (L2.CX l.prog w) 82 fa fd [(Str.ofString "_law_script")] (@spF (ers (K w.params)) (K w.params) (run FU T 40 17))) :
    PySem.W.WalkO q loose XP YP l.row.toRowW d [] (fun f vs => PySem.call f vs) :=
  walkG (n := 63) (k := 82) (x := (Str.ofString "_law_script")) (CX := fun w => L2.CX l.prog w) (sp := fun w => @spF (ers (K w.params)) (K w.params) (run FU T 40 17)) hn (by decide) hdf ⟨rfl, by decide, by decide⟩ hY F (fun w H a ns hl _ hS => @law_start (ers (K w.params)) prg _ _ _ _ _ hS (hrun ns hl)) fun w H s e s' z => @cx_none (ers (K w.params)) _ _ _ _ _ _ z
end K06
open PySem PySem.W PyProof.Rows
set_option maxRecDepth 100000 in
set_option maxHeartbeats 0 in
theorem PySem.Challenge.cw_fewstand_k06_families_looked_at_holds : PySem.Challenge.rw_fewstand_k06_families_looked_at.Holds := by
  w_on; o_law; k_head; (case hw => w_witness2)
  k_fill
  refine K06.walk (l := PySem.Challenge.rw_fewstand_k06_families_looked_at) rfl rfl (fun w h Y => PySem.W.kIn_of Y) K06.hrun ?F
  case F =>
    intro w mg fa h KX G hmg
    refine' K06.all_mk KX G hmg ?a0 ?l0 ?c0 ?k0 ?a1 ?l1 ?c1 ?k1 ?a2 ?l2 ?c2 ?k2 ?a3 ?l3 ?c3 ?k3 ?a4 ?l4 ?c4 ?k4 ?a5 ?l5 ?c5 ?k5 ?a6 ?l6 ?c6 ?k6 ?a7 ?l7 ?c7 ?k7 ?a8 ?l8 ?c8 ?k8 ?a9 ?l9 ?c9 ?k9 ?a10 ?l10 ?c10 ?k10 ?a11 ?l11 ?c11 ?k11 ?a12 ?l12 ?c12 ?k12 ?a13 ?l13 ?c13 ?k13 ?a14 ?l14 ?c14 ?k14 ?a15 ?l15 ?c15 ?k15 ?a16 ?l16 ?c16 ?k16 ?a17 ?l17 ?c17 ?k17 ?v0 ?ea0 ?ea1 ?ea2 ?ea3 ?xg0 ?xk0 ?xs0 ?xd0 ?xa0 ?xm0 ?fa0 ?fp0 ?kt0_0 ?xo0_0 ?kt0_1 ?xo0_1 ?kt0_2 ?xo0_2 ?kt0_3 ?xo0_3 ?kt0_4 ?xo0_4 ?xg1 ?xk1 ?xs1 ?xd1 ?xa1 ?xm1 ?fa1 ?fp1 ?kt1_0 ?xo1_0 ?kt1_1 ?xo1_1 ?kt1_2 ?xo1_2 ?kt1_3 ?xo1_3 ?kt1_4 ?xo1_4 ?xg2 ?xk2 ?xs2 ?xd2 ?xa2 ?xm2 ?fa2 ?fp2 ?rk2 ?rt2 ?sa2 ?in2 ?it2 ?il2 ?ic2 ?ik2 ?xl2 ?kt2_0 ?xo2_0 ?kt2_1 ?xo2_1 ?kt2_2 ?xo2_2 ?kt2_3 ?xo2_3 ?kt2_4 ?xo2_4 ?xg3 ?xk3 ?xs3 ?xd3 ?xa3 ?xm3 ?fa3 ?fp3 ?kt3_0 ?xo3_0 ?kt3_1 ?xo3_1 ?kt3_2 ?xo3_2 ?kt3_3 ?xo3_3 ?kt3_4 ?xo3_4 ?xn ?xt ?ty0_0 ?ty1_0 ?ty2_0 ?ty3_0 ?ty4_0 ?ty5_0 ?ty0_1 ?ty1_1 ?ty2_1 ?ty3_1 ?ty4_1 ?ty5_1 ?ty0_2 ?ty1_2 ?ty2_2 ?ty3_2 ?ty4_2 ?ty5_2 ?ty0_3 ?ty1_3 ?ty2_3 ?ty3_3 ?ty4_3 ?ty5_3 ?ty0_4 ?ty1_4 ?ty2_4 ?ty3_4 ?ty4_4 ?ty5_4 ?br ?bi ?bg ?zV ?z0 ?z1 ?z2 ?z3 ?z4 ?z5 ?z6 ?z7 ?z8 ?z9 ?z10 ?z11 ?z12 ?z13 ?z14 ?z15 ?z16 ?z17 ?z18
    (case a0 => k_is)
    (case l0 => k_is)
    (case c0 => k_is)
    (case k0 => k_is)
    (case a1 => k_is)
    (case l1 => k_is)
    (case c1 => k_is)
    (case k1 => k_is)
    (case a2 => k_is)
    (case l2 => k_is)
    (case c2 => k_is)
    (case k2 => k_is)
    (case a3 => k_is)
    (case l3 => k_is)
    (case c3 => k_is)
    (case k3 => k_is)
    (case a4 => k_is)
    (case l4 => k_is)
    (case c4 => k_is)
    (case k4 => k_is)
    (case a5 => k_is)
    (case l5 => k_is)
    (case c5 => k_is)
    (case k5 => k_is)
    (case a6 => k_is)
    (case l6 => k_is)
    (case c6 => k_is)
    (case k6 => k_is)
    (case a7 => k_is)
    (case l7 => k_is)
    (case c7 => k_is)
    (case k7 => k_is)
    (case a8 => k_is)
    (case l8 => k_is)
    (case c8 => k_is)
    (case k8 => k_is)
    (case a9 => k_is)
    (case l9 => k_is)
    (case c9 => k_is)
    (case k9 => k_is)
    (case a10 => k_is)
    (case l10 => k_is)
    (case c10 => k_is)
    (case k10 => k_is)
    (case a11 => k_is)
    (case l11 => k_is)
    (case c11 => k_is)
    (case k11 => k_is)
    (case a12 => k_is)
    (case l12 => k_is)
    (case c12 => k_is)
    (case k12 => k_is)
    (case a13 => k_is)
    (case l13 => k_is)
    (case c13 => k_is)
    (case k13 => k_is)
    (case a14 => k_is)
    (case l14 => k_is)
    (case c14 => k_is)
    (case k14 => k_is)
    (case a15 => k_is)
    (case l15 => k_is)
    (case c15 => k_is)
    (case k15 => k_is)
    (case a16 => k_is)
    (case l16 => k_is)
    (case c16 => k_is)
    (case k16 => k_is)
    (case a17 => k_is)
    (case l17 => k_is)
    (case c17 => k_is)
    (case k17 => k_is)
    (case v0 => k_is)
    (case ea0 => k_is)
    (case ea1 => k_is)
    (case ea2 => k_is)
    (case ea3 => k_is)
    (case xg0 => k_is)
    (case xk0 => k_is)
    (case xs0 => k_is)
    (case xd0 => k_is)
    (case xa0 => k_is)
    (case xm0 => k_is)
    (case fa0 => k_is)
    (case fp0 => k_is)
    (case kt0_0 => kit_is)
    (case xo0_0 => kts_exm)
    (case kt0_1 => kit_is)
    (case xo0_1 => kts_exm)
    (case kt0_2 => kit_is)
    (case xo0_2 => kts_exm)
    (case kt0_3 => kit_is)
    (case xo0_3 => kts_exm)
    (case kt0_4 => kit_is)
    (case xo0_4 => kts_exm)
    (case xg1 => k_is)
    (case xk1 => k_is)
    (case xs1 => k_is)
    (case xd1 => k_is)
    (case xa1 => k_is)
    (case xm1 => k_is)
    (case fa1 => k_is)
    (case fp1 => k_is)
    (case kt1_0 => kit_is)
    (case xo1_0 => kts_exm)
    (case kt1_1 => kit_is)
    (case xo1_1 => kts_exm)
    (case kt1_2 => kit_is)
    (case xo1_2 => kts_exm)
    (case kt1_3 => kit_is)
    (case xo1_3 => kts_exm)
    (case kt1_4 => kit_is)
    (case xo1_4 => kts_exm)
    (case xg2 => k_is)
    (case xk2 => k_is)
    (case xs2 => k_is)
    (case xd2 => k_is)
    (case xa2 => k_is)
    (case xm2 => k_is)
    (case fa2 => k_is)
    (case fp2 => k_is)
    (case rk2 => k_is)
    (case rt2 => k_is)
    (case sa2 => k_is)
    (case in2 => k_is)
    (case it2 => k_is)
    (case il2 => k_is)
    (case ic2 => k_is)
    (case ik2 => k_is)
    (case xl2 => k_is)
    (case kt2_0 => kit_is)
    (case xo2_0 => kts_exm)
    (case kt2_1 => kit_is)
    (case xo2_1 => kts_exm)
    (case kt2_2 => kit_is)
    (case xo2_2 => kts_exm)
    (case kt2_3 => kit_is)
    (case xo2_3 => kts_exm)
    (case kt2_4 => kit_is)
    (case xo2_4 => kts_exm)
    (case xg3 => k_is)
    (case xk3 => k_is)
    (case xs3 => k_is)
    (case xd3 => k_is)
    (case xa3 => k_is)
    (case xm3 => k_is)
    (case fa3 => k_is)
    (case fp3 => k_is)
    (case kt3_0 => kit_is)
    (case xo3_0 => kts_exm)
    (case kt3_1 => kit_is)
    (case xo3_1 => kts_exm)
    (case kt3_2 => kit_is)
    (case xo3_2 => kts_exm)
    (case kt3_3 => kit_is)
    (case xo3_3 => kts_exm)
    (case kt3_4 => kit_is)
    (case xo3_4 => kts_exm)
    (case xn => k_is)
    (case xt => k_is)
    (case ty0_0 => kit_is)
    (case ty1_0 => kit_is)
    (case ty2_0 => kit_is)
    (case ty3_0 => kit_is)
    (case ty4_0 => kit_is)
    (case ty5_0 => kit_is)
    (case ty0_1 => kit_is)
    (case ty1_1 => kit_is)
    (case ty2_1 => kit_is)
    (case ty3_1 => kit_is)
    (case ty4_1 => kit_is)
    (case ty5_1 => kit_is)
    (case ty0_2 => kit_is)
    (case ty1_2 => kit_is)
    (case ty2_2 => kit_is)
    (case ty3_2 => kit_is)
    (case ty4_2 => kit_is)
    (case ty5_2 => kit_is)
    (case ty0_3 => kit_is)
    (case ty1_3 => kit_is)
    (case ty2_3 => kit_is)
    (case ty3_3 => kit_is)
    (case ty4_3 => kit_is)
    (case ty5_3 => kit_is)
    (case ty0_4 => kit_is)
    (case ty1_4 => kit_is)
    (case ty2_4 => kit_is)
    (case ty3_4 => kit_is)
    (case ty4_4 => kit_is)
    (case ty5_4 => kit_is)
    (case br => k_is)
    (case bi => k_is)
    (case bg => k_is)
    (case zV => k_is)
    (case z0 => k_is)
    (case z1 => k_is)
    (case z2 => k_is)
    (case z3 => k_is)
    (case z4 => k_is)
    (case z5 => k_is)
    (case z6 => k_is)
    (case z7 => k_is)
    (case z8 => k_is)
    (case z9 => k_is)
    (case z10 => k_is)
    (case z11 => k_is)
    (case z12 => k_is)
    (case z13 => k_is)
    (case z14 => k_is)
    (case z15 => k_is)
    (case z16 => k_is)
    (case z17 => k_is)
    (case z18 => k_is)
end
