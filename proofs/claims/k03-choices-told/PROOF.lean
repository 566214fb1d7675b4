import PyProof.Rows.All
import Wide.All
import OpenK.AllK
import Wide.FinOn
import HandS.ForMost
import HandS.ForExc
import HandS.TupAny
import HandS.IsInst
import HandS.Wide
import KE.SortData
import PySem.Challenge.RW_fewstand_k03_choices_told
section
set_option Elab.async false
set_option linter.all false
set_option maxRecDepth 100000
/-! A small evaluator over data, sound for the model: what is evaluated. -/
namespace Ev
open PySem L2

/-- what a name holds: nothing that is known, shared data, a list of its own -/
inductive Slot where
  | non
  | sh (d : PyData)
  | lst (ds : List PyData)

abbrev Ro := List Slot

/-- how an evaluation ends -/
inductive R (A : Type) where
  | ok (a : A) (r : Ro)
  | ex (c : Nat) (fs : List PyData) (r : Ro)
  | bad

def R.bind {A B : Type} (x : R A) (f : A → Ro → R B) : R B :=
  match x with
  | .ok a r => f a r
  | .ex c fs r => .ex c fs r
  | .bad => .bad

inductive Op where
  | add | sub | mul | fdiv | mod | pow | neg
  | eq | ne | lt | le | gt | ge | is_ | isnot | in_ | notin
  | item | len | max2 | min2 | int_ | list_ | tuple_ | sorted | isi (t : String)
  deriving DecidableEq

mutual
inductive CE where
  | var (i : Nat)
  | cst (d : PyData)
  | glob (x : Str) (d : PyData)
  | op (o : Op) (es : CEs)
  | tup (es : CEs)
  | lst (es : CEs)
  | not (a : CE)
  | and (a b : CE)
  | or (a b : CE)
  | chain (o p : Op) (a b c : CE)
  | lc (elt : CE) (tg : CT) (it : CI) (cond : CEs) (own : List (Str × Nat))
  | call (f : Nat) (es : CEs)
  | ref (i : Nat)
  | own (a : CE)
  | pop (i : Nat) (a : CE)
inductive CEs where
  | nil
  | cons (e : CE) (es : CEs)
inductive CI where
  | seq (a : CE)
  | rng1 (a : CE)
  | rng2 (a b : CE)
inductive CT where
  | name (i : Nat)
  | tup (ts : CTs)
inductive CTs where
  | nil
  | cons (t : CT) (ts : CTs)
end

mutual
inductive CS where
  | set (t : CT) (e : CE)
  | setLc (i : Nat) (e : CE)
  | move (i j : Nat)
  | aug (i : Nat) (o : Op) (e : CE)
  | ite (c : CE) (a b : CSs)
  | for_ (t : CT) (it : CI) (b : CSs)
  | while_ (c : CE) (b : CSs)
  | ret (e : CE)
  | expr (e : CE)
  | append (i : Nat) (e : CE)
  | extend (i : Nat) (e : CE)
  | setItem (i : Nat) (k e : CE)
  | pass
inductive CSs where
  | nil
  | cons (s : CS) (ss : CSs)
end

def CTs.len : CTs → Nat
  | .nil => 0
  | .cons _ ts => ts.len + 1
def CEs.len : CEs → Nat
  | .nil => 0
  | .cons _ es => es.len + 1

inductive Fl where
  | nx
  | ret (s : Slot)

/-- what a def gives back: a value (or an error) and what its arguments are now -/
inductive FR where
  | ret (s : Slot) (outs : Ro)
  | ex (c : Nat) (fs : List PyData) (outs : Ro)
  | bad

def small (n : Nat) : Bool := decide (n ≤ 16777216)
def shp (d : PyData) : Bool := SeqAt.shaped d

/-! the built-in operations, by data -/
def pAdd : List PyData → Option Slot
  | [.int i, .int j] => some (.sh (.int (i + j)))
  | [.list a, .list b] => if small (a.length + b.length) then some (.lst (a ++ b)) else none
  | [.tuple a, .tuple b] => if small (a.length + b.length) then some (.sh (.tuple (a ++ b))) else none
  | _ => none
def pSub : List PyData → Option Slot
  | [.int i, .int j] => some (.sh (.int (i - j)))
  | _ => none
def pMul : List PyData → Option Slot
  | [.list a, .int j] => if (decide (-1000000 < j) && decide (j < 1000000) && small (a.length * j.toNat)) = true then some (.lst (List.replicate j.toNat a).flatten) else none
  | [.int i, .int j] => if (decide (i.natAbs < 2 ^ 64) || decide (j.natAbs < 2 ^ 64)) = true then some (.sh (.int (i * j))) else none
  | _ => none
def pFdiv : List PyData → Option Slot
  | [.int i, .int j] => if (decide (0 < j) && decide (j < 1000000000000000000000000000000)) = true then some (.sh (.int (i / j))) else none
  | _ => none
def pMod : List PyData → Option Slot
  | [.int i, .int j] => if decide (0 < j) = true then some (.sh (.int (i % j))) else none
  | _ => none
def pPow : List PyData → Option Slot
  | [.int i, .int j] => if (decide (0 ≤ j) && decide (j ≤ 1000000) && decide (i.natAbs < 2 ^ 64)) = true then some (.sh (.int (i ^ j.toNat))) else none
  | _ => none
def pNeg : List PyData → Option Slot
  | [.int i] => some (.sh (.int (-i)))
  | _ => none
def pEq : List PyData → Option Slot
  | [a, b] => if (shp a && shp b) = true then some (.sh (.bool (PyData.eqv a b))) else none
  | _ => none
def pNe : List PyData → Option Slot
  | [a, b] => if (shp a && shp b) = true then some (.sh (.bool (!PyData.eqv a b))) else none
  | _ => none
def pLt : List PyData → Option Slot
  | [.int i, .int j] => some (.sh (.bool (decide (i < j))))
  | _ => none
def pLe : List PyData → Option Slot
  | [.int i, .int j] => some (.sh (.bool (decide (i ≤ j))))
  | _ => none
def pGt : List PyData → Option Slot
  | [.int i, .int j] => some (.sh (.bool (decide (j < i))))
  | _ => none
def pGe : List PyData → Option Slot
  | [.int i, .int j] => some (.sh (.bool (decide (j ≤ i))))
  | _ => none
def pLen : List PyData → Option Slot
  | [.list a] => some (.sh (.int a.length))
  | [.tuple a] => some (.sh (.int a.length))
  | [.dict [(.none, .list a)]] => some (.sh (.int a.length))
  | _ => none
def pItem : List PyData → Option Slot
  | [.list a, .int i] => (atI a i).map .sh
  | [.tuple a, .int i] => (atI a i).map .sh
  | [.dict [(.none, .list a)], .int i] => (atI a i).map .sh
  | _ => none
def pMax2 : List PyData → Option Slot
  | [.int i, .int j] => some (.sh (.int (if j > i then j else i)))
  | _ => none
def pMin2 : List PyData → Option Slot
  | [.int i, .int j] => some (.sh (.int (if j < i then j else i)))
  | _ => none
def pList : List PyData → Option Slot
  | [.list a] => some (.lst a)
  | [.tuple a] => some (.lst a)
  | _ => none
def pTuple : List PyData → Option Slot
  | [.list a] => some (.sh (.tuple a))
  | [.tuple a] => some (.sh (.tuple a))
  | _ => none
def pInt : List PyData → Option Slot
  | [.int i] => some (.sh (.int i))
  | [.bool b] => some (.sh (.int (if b then 1 else 0)))
  | _ => none
def leD (x y : PyData) : Bool := !PySem.W.dataLt y x
def alikeB (ds : List PyData) : Bool := ds.all fun a => ds.all fun b => PySem.W.alike a b
def neTup : PyData → Bool
  | .tuple (_ :: _) => true
  | _ => false
def noTup : PyData → Bool
  | .tuple _ => false
  | .none => false
  | _ => true
def sortB (ds : List PyData) : Bool := alikeB ds && (ds.all neTup || ds.all noTup) && ds.all fun d => d.canLay0 && decide (d.depth ≤ 60)
def pSorted : List PyData → Option Slot
  | [.list ds] => if sortB ds = true then some (.lst (ds.mergeSort leD)) else none
  | _ => none
/-- whether data is of a built-in class -/
def tyD : PyData → String → Option Bool
  | .none, t => if t = "int" ∨ t = "bool" ∨ t = "str" ∨ t = "list" ∨ t = "tuple" ∨ t = "dict" then some false else none
  | .bool _, t => if t = "int" ∨ t = "bool" then some true else if t = "str" ∨ t = "list" ∨ t = "tuple" ∨ t = "dict" then some false else none
  | .int _, t => if t = "int" then some true else if t = "bool" ∨ t = "str" ∨ t = "list" ∨ t = "tuple" ∨ t = "dict" then some false else none
  | .str _, t => if t = "str" then some true else if t = "bool" ∨ t = "int" ∨ t = "list" ∨ t = "tuple" ∨ t = "dict" then some false else none
  | .list _, t => if t = "list" then some true else if t = "bool" ∨ t = "str" ∨ t = "int" ∨ t = "tuple" ∨ t = "dict" then some false else none
  | .tuple _, t => if t = "tuple" then some true else if t = "bool" ∨ t = "str" ∨ t = "list" ∨ t = "int" ∨ t = "dict" then some false else none
  | .dict _, _ => none
def pIsi (t : String) : List PyData → Option Slot
  | [d] => (tyD d t).map fun b => .sh (.bool b)
  | _ => none
def prim : Op → List PyData → Option Slot
  | .add, ds => pAdd ds
  | .sub, ds => pSub ds
  | .mul, ds => pMul ds
  | .fdiv, ds => pFdiv ds
  | .mod, ds => pMod ds
  | .pow, ds => pPow ds
  | .neg, ds => pNeg ds
  | .eq, ds => pEq ds
  | .ne, ds => pNe ds
  | .lt, ds => pLt ds
  | .le, ds => pLe ds
  | .gt, ds => pGt ds
  | .ge, ds => pGe ds
  | .len, ds => pLen ds
  | .item, ds => pItem ds
  | .max2, ds => pMax2 ds
  | .min2, ds => pMin2 ds
  | .list_, ds => pList ds
  | .tuple_, ds => pTuple ds
  | .int_, ds => pInt ds
  | .sorted, ds => pSorted ds
  | .isi t, ds => pIsi t ds
  | _, _ => none

/-- a temporary goes into the shared data -/
def toSh : Slot → Option PyData
  | .sh d => some d
  | .lst ds => some (.list ds)
  | _ => none

def R.sh (x : R Slot) : R PyData := x.bind fun s r => match toSh s with
  | some d => .ok d r
  | none => .bad

/-- the stores to a target -/
def asgN (i : Nat) (s : Slot) (r : Ro) : Option Ro := if decide (i < r.length) = true then some (r.set i s) else none
mutual
def asg : CT → PyData → Ro → Option Ro
  | .name i, d, r => asgN i (.sh d) r
  | .tup ts, .tuple ds, r => asgs ts ds r
  | .tup _, _, _ => none
def asgs : CTs → List PyData → Ro → Option Ro
  | .nil, [], r => some r
  | .cons t ts, d :: ds, r => match asg t d r with
    | some r' => asgs ts ds r'
    | none => none
  | _, _, _ => none
end

/-- a lock: the place whose list is read -/
abbrev Lk := Option (Option Nat × Slot)
def unlk (l : Lk) (r : Ro) : Ro := match l with
  | none => r
  | some (some i, s) => r.set i s
  | some (none, _) => r
def unlks : List Lk → Ro → Ro
  | [], r => r
  | l :: ls, r => unlk l (unlks ls r)

/-- the turns of a loop -/
def turns (step : PyData → Ro → R Fl) : List PyData → Ro → R Fl
  | [], r => .ok .nx r
  | d :: ds, r => match step d r with
    | .ok .nx r' => turns step ds r'
    | o => o
/-- the turns of a comprehension -/
def comp (step : PyData → Ro → R (Option PyData)) : List PyData → List PyData → Ro → R (List PyData)
  | [], acc, r => .ok acc r
  | d :: ds, acc, r => match step d r with
    | .ok (some y) r' => comp step ds (acc ++ [y]) r'
    | .ok none r' => comp step ds acc r'
    | .ex c fs r' => .bad
    | .bad => .bad
def loop (c : Ro → R Bool) (b : Ro → R Fl) : Nat → Ro → R Fl
  | 0, _ => .bad
  | n + 1, r => match c r with
    | .ok true r1 => (match b r1 with
      | .ok .nx r2 => loop c b n r2
      | o => o)
    | .ok false r1 => .ok .nx r1
    | .ex c fs r1 => .ex c fs r1
    | .bad => .bad

def R.truth (x : R Slot) : R Bool := x.bind fun s r => match s with
  | .sh (.bool b) => .ok b r
  | _ => .bad

def rngL (lo : Int) (n : Nat) : List PyData := (List.range n).map fun (k : Nat) => PyData.int (lo + (k : Int))
def in62 (i : Int) : Bool := decide (-(2 ^ 62) ≤ i) && decide (i < 2 ^ 62)

/-- the items of a list or a tuple -/
def seqI (d : PyData) (l : List Lk) (r : Ro) : R (List PyData × List Lk) := match d with
  | .list ds => .ok (ds, l) r
  | .tuple ds => .ok (ds, l) r
  | _ => .bad
/-- slots forgotten, and brought back -/
def wipeR (r : Ro) : List Nat → Ro
  | [] => r
  | v :: vs => (wipeR r vs).set v .non
def backR (r0 r : Ro) : List Nat → Ro
  | [] => r
  | v :: vs => match r0[v]? with
    | some s => (backR r0 r vs).set v s
    | none => backR r0 r vs

section
variable (fu : Nat) (Phi : Nat → Ro → FR)

/-- a name's slot, its list shared from now on -/
def getV (i : Nat) (r : Ro) : R Slot := match r[i]? with
  | some (.sh d) => .ok (.sh d) r
  | some (.lst ds) => .ok (.sh (.list ds)) (r.set i (.sh (.list ds)))
  | _ => .bad
/-- a name's slot, its list locked -/
def getL (i : Nat) (r : Ro) : R (PyData × Lk) := match r[i]? with
  | some (.sh d) => .ok (d, none) r
  | some (.lst ds) => .ok (.list ds, some (some i, .lst ds)) (r.set i .non)
  | _ => .bad
/-- a name's slot, handed to a def that may change it -/
def getR (i : Nat) (r : Ro) : R (PyData × Lk) := match r[i]? with
  | some (.lst ds) => .ok (.list ds, some (some i, .lst ds)) (r.set i .non)
  | _ => .bad
/-- what is handed to a def -/
def slotOf (x : PyData × Lk) : Slot := match x.2 with
  | none => .sh x.1
  | some (_, s) => s

/-- the slots of a call's places behind it -/
def putBack : List Lk → Ro → Ro → Ro
  | none :: ls, _ :: os, r => putBack ls os r
  | some (some i, _) :: ls, o :: os, r => putBack ls os (r.set i o)
  | some (none, _) :: ls, _ :: os, r => putBack ls os r
  | _, _, r => r

mutual
def ev : CE → Ro → R Slot
  | .var i, r => getV i r
  | .cst d, r => .ok (.sh d) r
  | .glob _ d, r => .ok (.sh d) r
  | .op o es, r => (rds es r).bind fun x r1 => match prim o (x.map (·.1)) with
    | some s => .ok s (unlks (x.map (·.2)) r1)
    | none => .bad
  | .tup es, r => (evs es r).bind fun ds r1 => .ok (.sh (.tuple ds)) r1
  | .lst es, r => (evs es r).bind fun ds r1 => .ok (.lst ds) r1
  | .not a, r => ((ev a r).truth).bind fun b r1 => .ok (.sh (.bool (!b))) r1
  | .and a b, r => ((ev a r).truth).bind fun x r1 => if x = true then ev b r1 else .ok (.sh (.bool false)) r1
  | .or a b, r => ((ev a r).truth).bind fun x r1 => if x = true then .ok (.sh (.bool true)) r1 else ev b r1
  | .chain o p a b c, r => (ev a r).sh.bind fun x r1 => (ev b r1).sh.bind fun y r2 => match prim o [x, y] with
    | some (.sh (.bool true)) => (ev c r2).sh.bind fun z r3 => (match prim p [y, z] with
      | some s => .ok s r3
      | none => .bad)
    | some (.sh (.bool false)) => .ok (.sh (.bool false)) r2
    | _ => .bad
  | .lc elt tg it cond own, r => (evI it r).bind fun x r1 =>
      (comp (fun d q => match asg tg d (wipeR q (own.map (·.2))) with
        | some q1 => (evC cond q1).bind fun b q2 => if b = true then (ev elt q2).sh.bind fun y q3 => .ok (some y) (backR q q3 (own.map (·.2))) else .ok none (backR q q2 (own.map (·.2)))
        | none => .bad) x.1 [] r1).bind fun ys r2 => .ok (.lst ys) (unlks x.2 r2)
  | .call f es, r => (evA es r).bind fun x r1 => match Phi f (x.map slotOf) with
    | .ret s outs => .ok s (putBack (x.map (·.2)) outs r1)
    | .ex c fs outs => .ex c fs (putBack (x.map (·.2)) outs r1)
    | .bad => .bad
  | .ref _, _ => .bad
  | .own _, _ => .bad
  | .pop i a, r => match r[i]? with
    | some (.lst _) => (ev a r).sh.bind fun d r1 => (match d, r1[i]? with
      | .int n, some (.lst ds) => (match ixN ds.length n with
        | some j => (match ds[j]? with
          | some y => .ok (.sh y) (r1.set i (.lst (ds.eraseIdx j)))
          | none => .bad)
        | none => .bad)
      | _, _ => .bad)
    | _ => .bad
/-- shared data, from the left -/
def evs : CEs → Ro → R (List PyData)
  | .nil, r => .ok [] r
  | .cons e es, r => (ev e r).sh.bind fun d r1 => (evs es r1).bind fun ds r2 => .ok (d :: ds) r2
/-- data that is read, from the left; lists of names are locked -/
def rds : CEs → Ro → R (List (PyData × Lk))
  | .nil, r => .ok [] r
  | .cons (.var i) es, r => (getL i r).bind fun d r1 => (rds es r1).bind fun ds r2 => .ok (d :: ds) r2
  | .cons e es, r => (ev e r).sh.bind fun d r1 => (rds es r1).bind fun ds r2 => .ok ((d, none) :: ds) r2
/-- a call's arguments -/
def evA : CEs → Ro → R (List (PyData × Lk))
  | .nil, r => .ok [] r
  | .cons (.ref i) es, r => (getR i r).bind fun d r1 => (evA es r1).bind fun ds r2 => .ok (d :: ds) r2
  | .cons (.own e) es, r => (ev e r).bind fun s r1 => (match s with
    | .lst ls => (evA es r1).bind fun ds r2 => .ok ((.list ls, some (none, .lst ls)) :: ds) r2
    | _ => .bad)
  | .cons e es, r => (ev e r).sh.bind fun d r1 => (evA es r1).bind fun ds r2 => .ok ((d, none) :: ds) r2
/-- a clause's tests -/
def evC : CEs → Ro → R Bool
  | .nil, r => .ok true r
  | .cons e .nil, r => (ev e r).truth
  | .cons _ (.cons _ _), _ => .bad
/-- what a loop walks -/
def evI : CI → Ro → R (List PyData × List Lk)
  | .seq (.var i), r => (getL i r).bind fun d r1 => seqI d.1 [d.2] r1
  | .seq e, r => (ev e r).sh.bind fun d r1 => seqI d [] r1
  | .rng1 a, r => (ev a r).sh.bind fun d r1 => match d with
    | .int n => if (in62 n && small n.toNat) = true then .ok (rngL 0 n.toNat, []) r1 else .bad
    | _ => .bad
  | .rng2 a b, r => (ev a r).sh.bind fun d r1 => (ev b r1).sh.bind fun e r2 => match d, e with
    | .int m, .int n => if (in62 m && in62 n && small (n - m).toNat) = true then .ok (rngL m (n - m).toNat, []) r2 else .bad
    | _, _ => .bad
end

mutual
def ex : CS → Ro → R Fl
  | .set (.name i) e, r => (ev Phi e r).bind fun s r1 => match asgN i s r1 with
    | some r2 => .ok .nx r2
    | none => .bad
  | .set (.tup ts) e, r => (ev Phi e r).sh.bind fun d r1 => match asg (.tup ts) d r1 with
    | some r2 => .ok .nx r2
    | none => .bad
  | .setLc i e, r => (ev Phi e r).bind fun s r1 => match asgN i s r1 with
    | some r2 => .ok .nx r2
    | none => .bad
  | .move i j, r => match r[j]? with
    | some (.lst ds) => (match asgN i (.lst ds) (r.set j .non) with
      | some r2 => .ok .nx r2
      | none => .bad)
    | some (.sh d) => (match asgN i (.sh d) r with
      | some r2 => .ok .nx r2
      | none => .bad)
    | _ => .bad
  | .aug i o e, r => match r[i]? with
    | some (.sh (.int x)) => (ev Phi e r).sh.bind fun y r1 => (match prim o [.int x, y] with
      | some s => (match asgN i s r1 with
        | some r2 => .ok .nx r2
        | none => .bad)
      | none => .bad)
    | _ => .bad
  | .ite c a b, r => (ev Phi c r).truth.bind fun x r1 => if x = true then exs a r1 else exs b r1
  | .for_ t it b, r => (evI Phi it r).bind fun x r1 =>
      (turns (fun d q => match asg t d q with
        | some q1 => exs b q1
        | none => .bad) x.1 r1).bind fun f r2 => .ok f (unlks x.2 r2)
  | .while_ c b, r => loop (fun q => (ev Phi c q).truth) (fun q => exs b q) fu r
  | .ret (.var i), r => match r[i]? with
    | some (.sh d) => .ok (.ret (.sh d)) r
    | some (.lst ds) => .ok (.ret (.lst ds)) (r.set i .non)
    | _ => .bad
  | .ret e, r => (ev Phi e r).bind fun s r1 => .ok (.ret s) r1
  | .expr e, r => (ev Phi e r).bind fun _ r1 => .ok .nx r1
  | .append i e, r => match r[i]? with
    | some (.lst _) => (ev Phi e r).sh.bind fun y r1 => (match r1[i]? with
      | some (.lst ds) => if decide (ds.length < 16777216) = true then .ok .nx (r1.set i (.lst (ds ++ [y]))) else .bad
      | _ => .bad)
    | _ => .bad
  | .extend i e, r => match r[i]? with
    | some (.lst _) => (ev Phi e r).sh.bind fun y r1 => (match r1[i]?, y with
      | some (.lst ds), .list ys => if small (ds.length + ys.length) = true then .ok .nx (r1.set i (.lst (ds ++ ys))) else .bad
      | _, _ => .bad)
    | _ => .bad
  | .setItem i k e, r => (ev Phi e r).sh.bind fun y r1 => (match r1[i]? with
    | some (.lst _) => (ev Phi k r1).sh.bind fun z r2 => (match z, r2[i]? with
      | .int n, some (.lst ds) => (match ixN ds.length n with
        | some j => .ok .nx (r2.set i (.lst (ds.set j y)))
        | none => .bad)
      | _, _ => .bad)
    | _ => .bad)
  | .pass, r => .ok .nx r
def exs : CSs → Ro → R Fl
  | .nil, r => .ok .nx r
  | .cons s ss, r => match ex s r with
    | .ok .nx r1 => exs ss r1
    | o => o
end
end

/-- a def: its parameters' number, its slots' number, the parameters that it may change, its body -/
structure Fn where
  np : Nat
  nn : Nat
  muts : List Nat
  body : CSs

def outsOf (muts : List Nat) (args r : Ro) : Ro := (List.range args.length).map fun i => if decide (i ∈ muts) = true then r.getD i .non else args.getD i .non
def okArgs (muts : List Nat) : Nat → Ro → Bool
  | _, [] => true
  | i, .sh _ :: r => okArgs muts (i + 1) r
  | i, .lst _ :: r => decide (i ∈ muts) && okArgs muts (i + 1) r
  | _, .non :: _ => false

def runF (fu : Nat) (Phi : Nat → Ro → FR) (f : Fn) (args : Ro) : FR :=
  if (decide (args.length = f.np) && okArgs f.muts 0 args) = true then
    match exs fu Phi f.body (args ++ List.replicate (f.nn - f.np) .non) with
    | .ok (.ret s) r => .ret s (outsOf f.muts args r)
    | .ok .nx r => .ret (.sh .none) (outsOf f.muts args r)
    | .ex c fs r => .ex c fs (outsOf f.muts args r)
    | .bad => .bad
  else .bad

/-- the whole program, by levels -/
def run (fu : Nat) (T : List Fn) : Nat → Nat → Ro → FR
  | 0, _, _ => .bad
  | k + 1, f, args => match T[f]? with
    | some g => runF fu (run fu T k) g args
    | none => .bad
end Ev
end

section
set_option Elab.async false
set_option linter.all false
set_option maxRecDepth 100000
namespace Ev
open PySem L2

/-! ### data in a growing heap -/
mutual
/-- a value that reads as data, by the objects of J alone -/
inductive Sh (K : PySem.W.Frag) (J : Hp) : V → PyData → Prop
  | non : Sh K J .non .none
  | bl (b : Bool) : Sh K J (.bl b) (.bool b)
  | int (i : Int) : Sh K J (.int i) (.int i)
  | str (x : Str) : Sh K J (.str x) (.str x)
  | lst {a : Addr} {xs : List V} {ds : List PyData} : J a = some (.lst xs) → ShAll K J xs ds → Sh K J (.ref a) (.list ds)
  | tup {a : Addr} {xs : List V} {ds : List PyData} : J a = some (.tup xs) → ShAll K J xs ds → Sh K J (.ref a) (.tuple ds)
  | scr {a : Addr} {ns : List Int} : SqL K J a (ns.map V.int) → Sh K J (.ref a) (.dict [(.none, .list (ns.map PyData.int))])
inductive ShAll (K : PySem.W.Frag) (J : Hp) : List V → List PyData → Prop
  | nil : ShAll K J [] []
  | cons {v : V} {vs : List V} {d : PyData} {ds : List PyData} : Sh K J v d → ShAll K J vs ds → ShAll K J (v :: vs) (d :: ds)
end
mutual
theorem shMono {K : PySem.W.Frag} {H H' : Hp} (e : Same H H') : ∀ {d : PyData} {v : V}, Sh K H v d → Sh K H' v d
  | _, _, .non => .non
  | _, _, .bl b => .bl b
  | _, _, .int i => .int i
  | _, _, .str x => .str x
  | _, _, .lst h g => .lst (e _ _ h) (shsMono e g)
  | _, _, .tup h g => .tup (e _ _ h) (shsMono e g)
  | _, _, .scr h => .scr (e.seq h)
theorem shsMono {K : PySem.W.Frag} {H H' : Hp} (e : Same H H') : ∀ {ds : List PyData} {vs : List V}, ShAll K H vs ds → ShAll K H' vs ds
  | _, _, .nil => .nil
  | _, _, .cons h g => .cons (shMono e h) (shsMono e g)
end
mutual
theorem shDp {K : PySem.W.Frag} {H : Hp} : ∀ {d : PyData} {v : V}, d.canLay0 = true → Sh K H v d → Dp K H v d
  | _, _, _, .non => .non
  | _, _, _, .bl b => .bl b
  | _, _, _, .int i => .int i
  | _, _, _, .str x => .str x
  | _, _, c, .lst h g => .lst (.of h) (shsDp (by simpa [PyData.canLay0] using c) g)
  | _, _, c, .tup h g => .tup (.of h) (shsDp (by simpa [PyData.canLay0] using c) g)
  | _, _, c, .scr h => by simp [PyData.canLay0] at c
theorem shsDp {K : PySem.W.Frag} {H : Hp} : ∀ {ds : List PyData} {vs : List V}, PyData.canLayAll0 ds = true → ShAll K H vs ds → DpAll K H vs ds
  | _, _, _, .nil => .nil
  | _, _, c, .cons h g => by
    simp only [PyData.canLayAll0, Bool.and_eq_true] at c
    exact .cons (shDp c.1 h) (shsDp c.2 g)
end
theorem shsLen {K : PySem.W.Frag} {H : Hp} : ∀ {ds : List PyData} {vs : List V}, ShAll K H vs ds → vs.length = ds.length
  | _, _, .nil => rfl
  | _, _, .cons _ g => by rw [List.length_cons, List.length_cons, shsLen g]
theorem shsGet {K : PySem.W.Frag} {H : Hp} : ∀ {ds : List PyData} {vs : List V} {i : Nat} {d : PyData}, ShAll K H vs ds → ds[i]? = some d → ∃ v, vs[i]? = some v ∧ Sh K H v d
  | _, _, i, _, .nil, e => by simp at e
  | _, _, 0, _, .cons h _, e => by simp at e; subst e; exact ⟨_, rfl, h⟩
  | _, _, i + 1, d, .cons _ g, e => by
    obtain ⟨v, h1, h2⟩ := shsGet (i := i) (d := d) g (by simpa using e)
    exact ⟨v, by simpa using h1, h2⟩
theorem shsGetV {K : PySem.W.Frag} {H : Hp} : ∀ {ds : List PyData} {vs : List V} {i : Nat} {v : V}, ShAll K H vs ds → vs[i]? = some v → ∃ d, ds[i]? = some d ∧ Sh K H v d
  | _, _, i, _, .nil, e => by simp at e
  | _, _, 0, _, .cons h _, e => by simp at e; subst e; exact ⟨_, rfl, h⟩
  | _, _, i + 1, v, .cons _ g, e => by
    obtain ⟨d, h1, h2⟩ := shsGetV (i := i) (v := v) g (by simpa using e)
    exact ⟨d, by simpa using h1, h2⟩
theorem shsApp {K : PySem.W.Frag} {H : Hp} : ∀ {ds : List PyData} {vs : List V} {es : List PyData} {us : List V}, ShAll K H vs ds → ShAll K H us es → ShAll K H (vs ++ us) (ds ++ es)
  | _, _, _, _, .nil, g => g
  | _, _, _, _, .cons h k, g => .cons h (shsApp k g)
theorem shsSet {K : PySem.W.Frag} {H : Hp} {d : PyData} {v : V} (h : Sh K H v d) : ∀ {ds : List PyData} {vs : List V} {j : Nat}, ShAll K H vs ds → ShAll K H (vs.set j v) (ds.set j d)
  | _, _, _, .nil => .nil
  | _, _, 0, .cons _ g => .cons h g
  | _, _, j + 1, .cons k g => .cons k (shsSet h g)
theorem shsAt {K : PySem.W.Frag} {H : Hp} {ds : List PyData} {vs : List V} {i : Int} {d : PyData} (h : ShAll K H vs ds) (e : atI ds i = some d) : ∃ v, atI vs i = some v ∧ Sh K H v d := by
  unfold atI at e ⊢
  rw [shsLen h]
  cases q : ixN ds.length i with
  | none => rw [q] at e; cases e
  | some j =>
    rw [q] at e
    exact shsGet h e
theorem shsInts {K : PySem.W.Frag} {H : Hp} : ∀ (ns : List Int), ShAll K H (ns.map V.int) (ns.map PyData.int)
  | [] => .nil
  | n :: ns => .cons (.int n) (shsInts ns)

/-! ### slots -/
/-- what a slot says of a value; g: the addresses that are its own -/
def RepS (K : PySem.W.Frag) (H J : Hp) : Slot → V → List Addr → Prop
  | .non, _, _ => False
  | .sh d, v, g => g = [] ∧ Sh K J v d
  | .lst ds, v, g => ∃ a xs, v = .ref a ∧ g = [a] ∧ H a = some (.lst xs) ∧ ShAll K J xs ds

/-- the slots are as they are said to be; J: the part of the heap that nobody changes -/
structure Wf (K : PySem.W.Frag) (H J : Hp) (sg : St) (r : Ro) (fp : Nat → List Addr) : Prop where
  same : Same J H
  len : sg.length = r.length
  rep : ∀ i s, r[i]? = some s → s ≠ .non → ∃ v, sg[i]? = some (some v) ∧ RepS K H J s v (fp i)
  emp : ∀ i, (r[i]? = none ∨ r[i]? = some .non) → fp i = []
  dis : ∀ i j a, a ∈ fp i → a ∈ fp j → i = j
  jn : ∀ i a, a ∈ fp i → J a = none ∧ ∃ o, H a = some o

abbrev Own (fp : Nat → List Addr) (a : Addr) : Prop := ∃ i, a ∈ fp i
/-- from one state to a later one -/
structure Step (F : Addr → Prop) (H J : Hp) (F' : Addr → Prop) (H' J' : Hp) : Prop where
  js : Same J J'
  fr : ∀ b o, H b = some o → ¬ F b → H' b = some o
  fn : ∀ a, F' a → F a ∨ H a = none
  jg : ∀ a, J' a ≠ none → J a ≠ none ∨ F a ∨ H a = none

theorem Step.refl {F : Addr → Prop} {H J : Hp} : Step F H J F H J := ⟨Same.refl _, fun _ _ h _ => h, fun _ h => .inl h, fun _ h => .inl h⟩
theorem Step.gone {F F' : Addr → Prop} {H J H' J' : Hp} (s : Step F H J F' H' J') {a : Addr} (h : H' a = none) : F a ∨ H a = none := by
  cases e : H a with
  | none => exact .inr rfl
  | some o =>
    refine .inl ?_
    apply Classical.byContradiction
    intro n
    rw [s.fr a o e n] at h
    cases h
theorem Step.trans {F F1 F2 : Addr → Prop} {H J H1 J1 H2 J2 : Hp} (s : Step F H J F1 H1 J1) (t : Step F1 H1 J1 F2 H2 J2) : Step F H J F2 H2 J2 where
  js := s.js.trans t.js
  fr := fun b o h n => t.fr b o (s.fr b o h n) fun q => (s.fn b q).elim n fun z => by rw [z] at h; cases h
  fn := fun a q => (t.fn a q).elim (fun q => s.fn a q) fun z => s.gone z
  jg := fun a q => by
    rcases t.jg a q with z | z | z
    · exact s.jg a z
    · exact .inr (s.fn a z)
    · exact .inr (s.gone z)
theorem Step.weak {F F1 F2 : Addr → Prop} {H J H1 J1 : Hp} (s : Step F H J F1 H1 J1) (h : ∀ a, F2 a → F1 a) : Step F H J F2 H1 J1 := ⟨s.js, s.fr, fun a q => s.fn a (h a q), s.jg⟩
theorem Step.widen {F F0 F1 : Addr → Prop} {H J H1 J1 : Hp} (s : Step F H J F1 H1 J1) (h : ∀ a, F a → F0 a) : Step F0 H J F1 H1 J1 :=
  ⟨s.js, fun b o e n => s.fr b o e fun q => n (h b q), fun a q => (s.fn a q).imp (h a) id, fun a q => (s.jg a q).imp id (fun z => z.imp (h a) id)⟩
/-- what is apart stays as it was -/
theorem RepS.step {K : PySem.W.Frag} {F F' : Addr → Prop} {H J H' J' : Hp} (t : Step F H J F' H' J') : ∀ {s : Slot} {v : V} {g : List Addr}, RepS K H J s v g → (∀ a ∈ g, ¬ F a) → RepS K H' J' s v g
  | .non, _, _, h, _ => h
  | .sh d, v, g, ⟨h1, h2⟩, _ => ⟨h1, shMono t.js h2⟩
  | .lst ds, v, g, ⟨a, xs, e1, e2, h, k⟩, n => ⟨a, xs, e1, e2, t.fr a _ h (n a (by rw [e2]; exact List.mem_singleton.mpr rfl)), shsMono t.js k⟩
theorem RepS.there {K : PySem.W.Frag} {H J : Hp} : ∀ {s : Slot} {v : V} {g : List Addr}, RepS K H J s v g → ∀ a ∈ g, ∃ o, H a = some o
  | .non, _, _, h, _, _ => h.elim
  | .sh d, v, g, ⟨h1, h2⟩, a, q => by rw [h1] at q; cases q
  | .lst ds, v, g, ⟨a, xs, e1, e2, h, k⟩, b, q => by
    rw [e2] at q
    cases List.mem_singleton.mp q
    exact ⟨_, h⟩

/-- a new shared object -/
theorem step_new {F : Addr → Prop} {H J : Hp} {p : Addr} {o : HO} (sm : Same J H) (hp : H p = none) : Step F H J F (upd H p o) (upd J p o) where
  js := fun b u e => by rw [upd_ne (ne_of_none (sm b u e) hp)]; exact e
  fr := fun b u e _ => by rw [upd_ne (ne_of_none e hp)]; exact e
  fn := fun _ h => .inl h
  jg := fun a q => by
    by_cases z : a = p
    · exact .inr (.inr (by rw [z]; exact hp))
    · rw [upd_ne z] at q; exact .inl q
/-- a new object of one's own -/
theorem step_own {F : Addr → Prop} {H J : Hp} {p : Addr} {o : HO} (hp : H p = none) : Step F H J (fun a => F a ∨ a = p) (upd H p o) J where
  js := Same.refl _
  fr := fun b u e _ => by rw [upd_ne (ne_of_none e hp)]; exact e
  fn := fun a h => h.imp id fun z => by rw [z]; exact hp
  jg := fun a q => .inl q
theorem same_upd {H J : Hp} {p : Addr} {o : HO} (sm : Same J H) (hp : H p = none) : Same J (upd H p o) := fun b u e => by
  rw [upd_ne (ne_of_none (sm b u e) hp)]
  exact sm b u e
theorem same_upd2 {H J : Hp} {p : Addr} {o : HO} (sm : Same J H) : Same (upd J p o) (upd H p o) := fun b u e => by
  by_cases z : b = p
  · rw [z, upd_same] at e ⊢; exact e
  · rw [upd_ne z] at e ⊢; exact sm b u e

section
variable {K : PySem.W.Frag} {H J H' J' : Hp} {sg : St} {r : Ro} {fp : Nat → List Addr}
/-- the slots stay over a step that doesn't touch them -/
theorem Wf.step {F F' : Addr → Prop} (w : Wf K H J sg r fp) (t : Step F H J F' H' J') (sm : Same J' H') (n : ∀ a, Own fp a → ¬ F a) : Wf K H' J' sg r fp where
  same := sm
  len := w.len
  rep := fun i s e ne => by
    obtain ⟨v, h1, h2⟩ := w.rep i s e ne
    exact ⟨v, h1, h2.step t fun a q => n a ⟨i, q⟩⟩
  emp := w.emp
  dis := w.dis
  jn := fun i a q => by
    obtain ⟨j0, o, ho⟩ := w.jn i a q
    have hF := n a ⟨i, q⟩
    refine ⟨?_, o, t.fr a o ho hF⟩
    cases e : J' a with
    | none => rfl
    | some u =>
      rcases t.jg a (by rw [e]; exact fun z => nomatch z) with z | z | z
      · exact absurd j0 z
      · exact absurd z hF
      · rw [ho] at z; cases z
theorem Wf.new {p : Addr} {o : HO} (w : Wf K H J sg r fp) (hp : H p = none) : Wf K (upd H p o) (upd J p o) sg r fp := by
  refine w.step (F := fun _ => False) (F' := fun _ => False) (step_new w.same hp) (same_upd2 w.same) fun a q z => z
theorem Wf.newOwn {p : Addr} {o : HO} (w : Wf K H J sg r fp) (hp : H p = none) : Wf K (upd H p o) J sg r fp := by
  refine w.step (F := fun _ => False) (F' := fun a => False ∨ a = p) (step_own hp) (same_upd w.same hp) fun a q z => z

/-- one slot's own addresses changed -/
def fpSet (fp : Nat → List Addr) (i : Nat) (g : List Addr) : Nat → List Addr := fun j => if j = i then g else fp j
theorem fpSet_same {i : Nat} {g : List Addr} : fpSet fp i g i = g := by unfold fpSet; rw [if_pos rfl]
theorem fpSet_ne {i j : Nat} {g : List Addr} (h : j ≠ i) : fpSet fp i g j = fp j := by unfold fpSet; rw [if_neg h]
theorem own_set {i : Nat} {g : List Addr} {a : Addr} (h : Own (fpSet fp i g) a) : a ∈ g ∨ Own fp a := by
  obtain ⟨j, q⟩ := h
  by_cases z : j = i
  · rw [z, fpSet_same] at q; exact .inl q
  · rw [fpSet_ne z] at q; exact .inr ⟨j, q⟩
theorem own_wipe {i : Nat} {a : Addr} (h : Own (fpSet fp i []) a) : Own fp a := (own_set h).elim (fun z => nomatch z) id
theorem own_wipe_ne {i : Nat} {a : Addr} (w : Wf K H J sg r fp) (h : a ∈ fp i) : ¬ Own (fpSet fp i []) a := fun ⟨j, q⟩ => by
  by_cases z : j = i
  · rw [z, fpSet_same] at q; cases q
  · rw [fpSet_ne z] at q; exact z (w.dis j i a q h)

/-- a slot forgotten -/
theorem Wf.drop (w : Wf K H J sg r fp) (i : Nat) : Wf K H J sg (r.set i .non) (fpSet fp i []) where
  same := w.same
  len := by rw [List.length_set]; exact w.len
  rep := fun j s e ne => by
    by_cases z : j = i
    · subst z
      by_cases hl : j < r.length
      · rw [List.getElem?_set_self hl] at e; cases e; exact absurd rfl ne
      · rw [List.getElem?_eq_none (by simpa using hl)] at e; cases e
    · rw [List.getElem?_set_ne (fun q => z q.symm)] at e
      rw [fpSet_ne z]
      exact w.rep j s e ne
  emp := fun j e => by
    by_cases z : j = i
    · rw [z, fpSet_same]
    · rw [List.getElem?_set_ne (fun q => z q.symm)] at e
      rw [fpSet_ne z]
      exact w.emp j e
  dis := fun j k a h1 h2 => by
    by_cases z : j = i
    · rw [z, fpSet_same] at h1; cases h1
    · by_cases y : k = i
      · rw [y, fpSet_same] at h2; cases h2
      · rw [fpSet_ne z] at h1; rw [fpSet_ne y] at h2; exact w.dis j k a h1 h2
  jn := fun j a h1 => by
    by_cases z : j = i
    · rw [z, fpSet_same] at h1; cases h1
    · rw [fpSet_ne z] at h1; exact w.jn j a h1
/-- a slot set -/
theorem Wf.put (w : Wf K H J sg r fp) {i : Nat} {s : Slot} {v : V} {g : List Addr} (hi : i < r.length) (hs : RepS K H J s v g) (hg : ∀ a ∈ g, J a = none ∧ ∀ j, j ≠ i → a ∉ fp j) : Wf K H J (sg.set i (some v)) (r.set i s) (fpSet fp i g) where
  same := w.same
  len := by rw [List.length_set, List.length_set]; exact w.len
  rep := fun j t e ne => by
    by_cases z : j = i
    · subst z
      rw [List.getElem?_set_self hi] at e
      cases e
      rw [fpSet_same]
      exact ⟨v, List.getElem?_set_self (by rw [w.len]; exact hi), hs⟩
    · rw [List.getElem?_set_ne (fun q => z q.symm)] at e
      rw [fpSet_ne z, List.getElem?_set_ne (fun q => z q.symm)]
      exact w.rep j t e ne
  emp := fun j e => by
    by_cases z : j = i
    · subst z
      rw [List.getElem?_set_self hi] at e
      rcases e with e | e
      · cases e
      · cases e; exact hs.elim
    · rw [List.getElem?_set_ne (fun q => z q.symm)] at e
      rw [fpSet_ne z]
      exact w.emp j e
  dis := fun j k a h1 h2 => by
    by_cases z : j = i
    · by_cases y : k = i
      · rw [z, y]
      · rw [z, fpSet_same] at h1; rw [fpSet_ne y] at h2; exact absurd h2 ((hg a h1).2 k y)
    · by_cases y : k = i
      · rw [y, fpSet_same] at h2; rw [fpSet_ne z] at h1; exact absurd h1 ((hg a h2).2 j z)
      · rw [fpSet_ne z] at h1; rw [fpSet_ne y] at h2; exact w.dis j k a h1 h2
  jn := fun j a h1 => by
    by_cases z : j = i
    · rw [z, fpSet_same] at h1; exact ⟨(hg a h1).1, hs.there a h1⟩
    · rw [fpSet_ne z] at h1; exact w.jn j a h1
/-- a slot set to what its name holds already -/
theorem Wf.putKeep (w : Wf K H J sg r fp) {i : Nat} {s : Slot} {v : V} {g : List Addr} (hi : i < r.length) (hv : sg[i]? = some (some v)) (hs : RepS K H J s v g) (hg : ∀ a ∈ g, J a = none ∧ ∀ j, j ≠ i → a ∉ fp j) : Wf K H J sg (r.set i s) (fpSet fp i g) := by
  have e : sg.set i (some v) = sg := by
    apply List.ext_getElem?
    intro j
    by_cases z : i = j
    · subst z; rw [List.getElem?_set_self (by rw [w.len]; exact hi), hv]
    · rw [List.getElem?_set_ne z]
  have q := w.put hi hs hg
  rw [e] at q
  exact q
/-- a slot's list goes into the shared part -/
theorem Wf.freeze (w : Wf K H J sg r fp) {i : Nat} {ds : List PyData} (e : r[i]? = some (.lst ds)) : ∃ v J', Sh K J' v (.list ds) ∧ sg[i]? = some (some v) ∧ Wf K H J' sg (r.set i (.sh (.list ds))) (fpSet fp i []) ∧ Step (Own fp) H J (Own (fpSet fp i [])) H J' := by
  obtain ⟨v, hv, a, xs, rfl, hg, ha, hd⟩ := w.rep i _ e (fun z => nomatch z)
  have hi : i < r.length := (List.getElem?_eq_some_iff.mp e).1
  have own : Own fp a := ⟨i, by rw [hg]; exact List.mem_singleton.mpr rfl⟩
  have jn := (w.jn i a (by rw [hg]; exact List.mem_singleton.mpr rfl)).1
  have js : Same J (upd J a (.lst xs)) := fun b u q => by rw [upd_ne (ne_of_none q jn)]; exact q
  have sm : Same (upd J a (.lst xs)) H := fun b u q => by
    by_cases z : b = a
    · rw [z, upd_same] at q; rw [z, ← q]; exact ha
    · rw [upd_ne z] at q; exact w.same b u q
  have w1 := w.drop i
  have st : Step (fun b => b = a) H J (fun _ => False) H (upd J a (.lst xs)) := ⟨js, fun _ _ h _ => h, fun _ h => h.elim, fun b q => by
    by_cases z : b = a
    · exact .inr (.inl z)
    · rw [upd_ne z] at q; exact .inl q⟩
  have hd' : Sh K (upd J a (.lst xs)) (.ref a) (.list ds) := .lst upd_same (shsMono js hd)
  have w2 : Wf K H (upd J a (.lst xs)) sg (r.set i .non) (fpSet fp i []) := w1.step st sm fun b q z => by
    subst z
    exact own_wipe_ne w (by rw [hg]; exact List.mem_singleton.mpr rfl) q
  refine ⟨_, upd J a (.lst xs), hd', hv, ?_, js, fun _ _ h _ => h, fun b q => .inl (own_wipe q), fun b q => (st.jg b q).imp id fun z => z.imp (fun y => by rw [y]; exact own) id⟩
  have w3 := w2.putKeep (i := i) (s := .sh (.list ds)) (v := .ref a) (g := []) (by rw [List.length_set]; exact hi) hv ⟨rfl, hd'⟩ (fun b q => nomatch q)
  rw [List.set_set] at w3
  have e2 : fpSet (fpSet fp i []) i [] = fpSet fp i [] := by
    funext j
    by_cases z : j = i
    · rw [z, fpSet_same, fpSet_same]
    · rw [fpSet_ne z]
  rw [e2] at w3
  exact w3
end
end Ev
end

section
set_option Elab.async false
set_option linter.all false
set_option maxRecDepth 100000
namespace Ev
open PySem L2

/-! ### readings -/
theorem PE.imp {X : Cx} {e : Expr} {t t' : TE} (h : PE X e t) (i : ∀ sg H Q, t' sg H Q → t sg H Q) : PE X e t' := ⟨fun pins s sg H Q I q => h.run pins s sg H Q I (i sg H Q q)⟩
/-- the same with what is known of the heap -/
theorem PE.impI {X : Cx} {e : Expr} {t t' : TE} (h : PE X e t) (i : ∀ pins s sg H Q, Inv X pins sg H s → t' sg H Q → t sg H Q) : PE X e t' := ⟨fun pins s sg H Q I q => h.run pins s sg H Q I (i pins s sg H Q I q)⟩
theorem PT.imp {X : Cx} {e : Expr} {t t' : TT} (h : PT X e t) (i : ∀ sg H Q, t' sg H Q → t sg H Q) : PT X e t' := ⟨fun pins s sg H Q I q => h.run pins s sg H Q I (i sg H Q q)⟩
theorem PS.imp {X : Cx} {e : Stmt} {t t' : TS} (h : PS X e t) (i : ∀ D sg H, t' D sg H → t D sg H) : PS X e t' := ⟨fun pins s sg H D I q => h.run pins s sg H D I (i D sg H q)⟩
theorem PSs.imp {X : Cx} {e : List Stmt} {t t' : TS} (h : PSs X e t) (i : ∀ D sg H, t' D sg H → t D sg H) : PSs X e t' := ⟨fun pins s sg H D I q => h.run pins s sg H D I (i D sg H q)⟩
theorem PA.imp {X : Cx} {e : List Expr} {t t' : TA} (h : PA X e t) (i : ∀ sg H Q, t' sg H Q → t sg H Q) : PA X e t' := ⟨fun pos pins s sg H Q I q => h.run pos pins s sg H Q I (i sg H Q q)⟩
theorem PI.or {X : Cx} {tg e : Expr} {t t' : TI} (h : PI X tg e t) (h' : PI X tg e t') : PI X tg e (fun sg H Q => t sg H Q ∨ t' sg H Q) := ⟨fun pins s sg H Q I q => q.elim (fun q => h.run pins s sg H Q I q) fun q => h'.run pins s sg H Q I q⟩
theorem PI.imp {X : Cx} {tg e : Expr} {t t' : TI} (h : PI X tg e t) (i : ∀ sg H Q, t' sg H Q → t sg H Q) : PI X tg e t' := ⟨fun pins s sg H Q I q => h.run pins s sg H Q I (i sg H Q q)⟩

/-- the classes of errors, their addresses, the name of their field -/
structure Errs where
  ca : Nat → Addr
  fld : Nat → Str

/-- an error as the evaluator says it -/
def XRep (G : Errs) (K : PySem.W.Frag) (H J : Hp) (c : Nat) (fs : List PyData) (cls : Value) (d : Option Addr) : Prop :=
  cls = .ref (G.ca c) ∧ ((fs = [] ∧ d = none) ∨ ∃ dd v x, d = some dd ∧ fs = [x] ∧ H dd = some (.xd [(G.fld c, v)]) ∧ Sh K J v x)

section
variable (G : Errs) (K : PySem.W.Frag) (W : WX)

/-- how an evaluation from H, J, fp at the slots sg may end -/
def Fin {A : Type} (Rep : Hp → Hp → A → V → List Addr → Prop) (sg : St) (H J : Hp) (fp : Nat → List Addr) (x : R A) (Q : V → Hp → Prop) : Prop := match x with
  | .ok a r' => ∀ v H' J' fp' g, Wf K H' J' sg r' fp' → Rep H' J' a v g → (∀ b ∈ g, J' b = none ∧ ¬ Own fp' b) → Step (Own fp) H J (fun b => Own fp' b ∨ b ∈ g) H' J' → Q v H'
  | .ex c fs r' => ∀ H' J' fp' cls d, Wf K H' J' sg r' fp' → XRep G K H' J' c fs cls d → Step (Own fp) H J (Own fp') H' J' → W cls d sg H'
  | .bad => False

def RepD (K : PySem.W.Frag) (H J : Hp) (d : PyData) (v : V) (g : List Addr) : Prop := g = [] ∧ Sh K J v d

variable (Phi : Nat → Ro → FR)
/-- an expression's reading -/
def tEv (c : CE) : TE := fun sg H Q => ∃ J r fp, Wf K H J sg r fp ∧ Fin G K W (RepS K) sg H J fp (ev Phi c r) Q
/-- .. its value shared -/
def tSh (c : CE) : TE := fun sg H Q => ∃ J r fp, Wf K H J sg r fp ∧ Fin G K W (RepD K) sg H J fp (ev Phi c r).sh Q
end

section
variable {G : Errs} {K : PySem.W.Frag} {W : WX} {sg : St} {H J H1 J1 : Hp} {fp fp1 : Nat → List Addr} {A B : Type}
/-- seen from a later state -/
theorem Fin.later {Rep : Hp → Hp → A → V → List Addr → Prop} {x : R A} {Q : V → Hp → Prop} (s : Step (Own fp) H J (Own fp1) H1 J1) (h : Fin G K W Rep sg H J fp x Q) : Fin G K W Rep sg H1 J1 fp1 x Q := by
  cases x with
  | ok a r => exact fun v H' J' fp' g w q n t => h v H' J' fp' g w q n (s.trans t)
  | ex c fs r => exact fun H' J' fp' cls d w q t => h H' J' fp' cls d w q (s.trans t)
  | bad => exact h
theorem step_nil (s : Step (Own fp) H J (fun b => Own fp1 b ∨ b ∈ ([] : List Addr)) H1 J1) : Step (Own fp) H J (Own fp1) H1 J1 := s.weak fun _ h => .inl h
theorem nil_step (s : Step (Own fp) H J (Own fp1) H1 J1) : Step (Own fp) H J (fun b => Own fp1 b ∨ b ∈ ([] : List Addr)) H1 J1 := s.weak fun _ h => h.elim id fun z => nomatch z
/-- a first part, then the rest -/
theorem Fin.bindD {Rep : Hp → Hp → B → V → List Addr → Prop} {x : R PyData} {f : PyData → Ro → R B} {Q : V → Hp → Prop} {T : V → Hp → Prop} (h : Fin G K W Rep sg H J fp (x.bind f) Q)
    (k : ∀ d r1 v H1 J1 fp1, x = .ok d r1 → Wf K H1 J1 sg r1 fp1 → Sh K J1 v d → Step (Own fp) H J (Own fp1) H1 J1 → Fin G K W Rep sg H1 J1 fp1 (f d r1) Q → T v H1) : Fin G K W (RepD K) sg H J fp x T := by
  cases x with
  | ok d r1 =>
    intro v H1 J1 fp1 g w q n t
    obtain ⟨rfl, q⟩ := q
    exact k d r1 v H1 J1 fp1 rfl w q (step_nil t) (Fin.later (step_nil t) h)
  | ex c fs r => exact h
  | bad => exact h
/-- a list of one's own goes into the shared part -/
theorem freezeT {r : Ro} {ds : List PyData} {v : V} {g : List Addr} (w : Wf K H J sg r fp) (q : RepS K H J (.lst ds) v g) (n : ∀ b ∈ g, J b = none ∧ ¬ Own fp b) : ∃ J', Sh K J' v (.list ds) ∧ Wf K H J' sg r fp ∧ Step (fun b => Own fp b ∨ b ∈ g) H J (Own fp) H J' := by
  obtain ⟨a, xs, rfl, rfl, ha, hd⟩ := q
  have jn := (n a (List.mem_singleton.mpr rfl)).1
  have nf := (n a (List.mem_singleton.mpr rfl)).2
  have js : Same J (upd J a (.lst xs)) := fun b u q => by rw [upd_ne (ne_of_none q jn)]; exact q
  have sm : Same (upd J a (.lst xs)) H := fun b u q => by
    by_cases z : b = a
    · rw [z, upd_same] at q; rw [z, ← q]; exact ha
    · rw [upd_ne z] at q; exact w.same b u q
  have st : Step (fun b => b = a) H J (fun _ => False) H (upd J a (.lst xs)) := ⟨js, fun _ _ h _ => h, fun _ h => h.elim, fun b q => by
    by_cases z : b = a
    · exact .inr (.inl z)
    · rw [upd_ne z] at q; exact .inl q⟩
  refine ⟨upd J a (.lst xs), .lst upd_same (shsMono js hd), w.step st sm fun b q z => by subst z; exact nf q, js, fun _ _ h _ => h, fun b q => .inl (.inl q), fun b q => ?_⟩
  rcases st.jg b q with z | z | z
  · exact .inl z
  · exact .inr (.inl (.inr (by rw [z]; exact List.mem_singleton.mpr rfl)))
  · exact .inr (.inr z)
theorem Fin.ofSh {x : R Slot} {Q : V → Hp → Prop} (h : Fin G K W (RepD K) sg H J fp x.sh Q) : Fin G K W (RepS K) sg H J fp x Q := by
  cases x with
  | ok s r1 =>
    intro v H1 J1 fp1 g w q n t
    cases s with
    | non => exact q.elim
    | sh d => exact h v H1 J1 fp1 g w q n t
    | lst ds =>
      obtain ⟨J2, q2, w2, s2⟩ := freezeT w q n
      exact h v H1 J2 fp1 [] w2 ⟨rfl, q2⟩ (fun b z => nomatch z) (nil_step (t.trans s2))
  | ex c fs r => exact h
  | bad => exact h
end
theorem PE.sh {X : Cx} {G : Errs} {W : WX} {Phi : Nat → Ro → FR} {e : Expr} {c : CE} (h : PE X e (tEv G X.K W Phi c)) : PE X e (tSh G X.K W Phi c) := PE.imp h fun sg H Q ⟨J, r, fp, w, f⟩ => ⟨J, r, fp, w, Fin.ofSh f⟩

end Ev
end

section
set_option Elab.async false
set_option linter.all false
set_option maxRecDepth 100000
namespace Ev
open PySem L2

/-! ### operands that are read -/
/-- a view: shared data, or a list that is somebody's own -/
def Vw (K : PySem.W.Frag) (H J : Hp) (v : V) (d : PyData) : Prop := Sh K J v d ∨ ∃ a xs ds, v = .ref a ∧ d = .list ds ∧ H a = some (.lst xs) ∧ ShAll K J xs ds
/-- one operand: its data, its lock, its value, the addresses that are locked -/
def Opd (K : PySem.W.Frag) (H J : Hp) (fp : Nat → List Addr) (sg : St) (d : PyData) (l : Lk) (v : V) (g : List Addr) : Prop := match l with
  | none => g = [] ∧ Sh K J v d
  | some (oi, s) => toSh s = some d ∧ RepS K H J s v g ∧ (∀ i, oi = some i → sg[i]? = some (some v)) ∧ ∀ b ∈ g, J b = none ∧ ¬ Own fp b

/-- one operand's evaluation -/
def rd1 (Phi : Nat → Ro → FR) : CE → Ro → R (PyData × Lk)
  | .var i, r => getL i r
  | e, r => (ev Phi e r).sh.bind fun d r1 => .ok (d, none) r1
/-- one argument's -/
def ar1 (Phi : Nat → Ro → FR) : CE → Ro → R (PyData × Lk)
  | .ref i, r => getR i r
  | .own e, r => (ev Phi e r).bind fun s r1 => (match s with
    | .lst ls => .ok (.list ls, some (none, .lst ls)) r1
    | _ => .bad)
  | e, r => (ev Phi e r).sh.bind fun d r1 => .ok (d, none) r1
/-- one item's of a display -/
def it1 (Phi : Nat → Ro → FR) (e : CE) (r : Ro) : R (PyData × Lk) := (ev Phi e r).sh.bind fun d r1 => .ok (d, none) r1
/-- many of them -/
def many (f : CE → Ro → R (PyData × Lk)) : CEs → Ro → R (List (PyData × Lk))
  | .nil, r => .ok [] r
  | .cons e es, r => (f e r).bind fun d r1 => (many f es r1).bind fun ds r2 => .ok (d :: ds) r2
theorem R.bind_bind {A B C : Type} (x : R A) (f : A → Ro → R B) (g : B → Ro → R C) : (x.bind f).bind g = x.bind fun a r => (f a r).bind g := by cases x <;> rfl
theorem R.ok_bind {A B : Type} (a : A) (r : Ro) (f : A → Ro → R B) : (R.ok a r).bind f = f a r := rfl
theorem R.bind_congr {A B : Type} (x : R A) {f g : A → Ro → R B} (h : ∀ a r, f a r = g a r) : x.bind f = x.bind g := by cases x <;> simp [R.bind, h]
theorem rds_many (Phi : Nat → Ro → FR) : ∀ (es : CEs) (r : Ro), rds Phi es r = many (rd1 Phi) es r
  | .nil, r => by simp only [rds, many]
  | .cons e es, r => by
    have ih := fun r => rds_many Phi es r
    cases e <;> simp only [rds, many, rd1, R.bind_bind, R.ok_bind] <;> exact R.bind_congr _ fun a r => by rw [ih]
theorem evA_many (Phi : Nat → Ro → FR) : ∀ (es : CEs) (r : Ro), evA Phi es r = many (ar1 Phi) es r
  | .nil, r => by simp only [evA, many]
  | .cons e es, r => by
    have ih := fun r => evA_many Phi es r
    cases e <;> simp only [evA, many, ar1, R.bind_bind, R.ok_bind] <;> refine R.bind_congr _ fun a r => ?_ <;> first | (rw [ih]; done) | (cases a <;> first | rfl | (simp only [R.ok_bind]; rw [ih]))
theorem evs_many (Phi : Nat → Ro → FR) : ∀ (es : CEs) (r : Ro), evs Phi es r = (many (it1 Phi) es r).bind fun x r1 => .ok (x.map (·.1)) r1
  | .nil, r => by simp only [evs, many, R.ok_bind, List.map_nil]
  | .cons e es, r => by
    have ih := fun r => evs_many Phi es r
    simp only [evs, many, it1, R.bind_bind, R.ok_bind]
    refine R.bind_congr _ fun a r => ?_
    rw [ih, R.bind_bind]
    exact R.bind_congr _ fun x r1 => by simp only [R.ok_bind, List.map_cons]
/-- operands, the locked ones apart from one another -/
inductive Opds (K : PySem.W.Frag) (H J : Hp) (fp : Nat → List Addr) (sg : St) : List (PyData × Lk) → List V → List Addr → Prop
  | nil : Opds K H J fp sg [] [] []
  | cons {d : PyData} {l : Lk} {x : List (PyData × Lk)} {v : V} {vs : List V} {g gs : List Addr} : Opd K H J fp sg d l v g → (∀ b ∈ g, b ∉ gs) → Opds K H J fp sg x vs gs → Opds K H J fp sg ((d, l) :: x) (v :: vs) (g ++ gs)

section
variable {G : Errs} {K : PySem.W.Frag} {W : WX} {sg : St} {H J H1 J1 H2 J2 : Hp} {fp fp1 fp2 : Nat → List Addr} {A B : Type}
theorem Opd.view {d : PyData} {l : Lk} {v : V} {g : List Addr} (h : Opd K H J fp sg d l v g) : Vw K H J v d := by
  cases l with
  | none => exact .inl h.2
  | some p =>
    obtain ⟨i, s⟩ := p
    obtain ⟨h1, h2, _⟩ := h
    cases s with
    | non => exact h2.elim
    | sh e => cases h1; exact .inl h2.2
    | lst ds =>
      cases h1
      obtain ⟨a, xs, e1, _, h3, h4⟩ := h2
      exact .inr ⟨a, xs, ds, e1, rfl, h3, h4⟩
theorem Opd.off {d : PyData} {l : Lk} {v : V} {g : List Addr} (h : Opd K H J fp sg d l v g) : ∀ b ∈ g, J b = none ∧ ¬ Own fp b ∧ ∃ o, H b = some o := by
  cases l with
  | none => intro b q; rw [h.1] at q; cases q
  | some p =>
    obtain ⟨i, s⟩ := p
    obtain ⟨h1, h2, h3, h4⟩ := h
    exact fun b q => ⟨(h4 b q).1, (h4 b q).2, h2.there b q⟩
/-- off a step: what was apart is apart -/
theorem Step.off {F F' : Addr → Prop} (t : Step F H J F' H1 J1) {b : Addr} (hj : J b = none) (hF : ¬ F b) (ho : ∃ o, H b = some o) : J1 b = none ∧ ¬ F' b := by
  obtain ⟨o, ho⟩ := ho
  refine ⟨?_, fun q => ?_⟩
  · cases e : J1 b with
    | none => rfl
    | some u =>
      rcases t.jg b (by rw [e]; exact fun z => nomatch z) with z | z | z
      · exact absurd hj z
      · exact absurd z hF
      · rw [ho] at z; cases z
  · rcases t.fn b q with z | z
    · exact hF z
    · rw [ho] at z; cases z
theorem Opd.step {d : PyData} {l : Lk} {v : V} {g : List Addr} {gs : List Addr} (h : Opd K H J fp sg d l v g) (t : Step (Own fp) H J (fun b => Own fp1 b ∨ b ∈ gs) H1 J1) : Opd K H1 J1 fp1 sg d l v g ∧ ∀ b ∈ g, b ∉ gs := by
  have off := h.off
  refine ⟨?_, fun b q z => (t.off (off b q).1 (off b q).2.1 (off b q).2.2).2 (.inr z)⟩
  cases l with
  | none => exact ⟨h.1, shMono t.js h.2⟩
  | some p =>
    obtain ⟨i, s⟩ := p
    obtain ⟨h1, h2, h3, h4⟩ := h
    refine ⟨h1, h2.step t fun b q => (h4 b q).2, h3, fun b q => ?_⟩
    have z := t.off (off b q).1 (off b q).2.1 (off b q).2.2
    exact ⟨z.1, fun y => z.2 (.inl y)⟩
theorem Opds.off : ∀ {x : List (PyData × Lk)} {vs : List V} {gs : List Addr}, Opds K H J fp sg x vs gs → ∀ b ∈ gs, J b = none ∧ ¬ Own fp b ∧ ∃ o, H b = some o
  | _, _, _, .nil, b, q => nomatch q
  | _, _, _, .cons h n k, b, q => (List.mem_append.mp q).elim (h.off b) (k.off b)
theorem Opds.step : ∀ {x : List (PyData × Lk)} {vs : List V} {gs : List Addr} {ns : List Addr}, Opds K H J fp sg x vs gs → Step (Own fp) H J (fun b => Own fp1 b ∨ b ∈ ns) H1 J1 → Opds K H1 J1 fp1 sg x vs gs ∧ ∀ b ∈ gs, b ∉ ns
  | _, _, _, _, .nil, _ => ⟨.nil, fun b q => nomatch q⟩
  | _, _, _, _, .cons h n k, t => by
    obtain ⟨a1, a2⟩ := h.step t
    obtain ⟨b1, b2⟩ := k.step t
    exact ⟨.cons a1 n b1, fun b q => (List.mem_append.mp q).elim (a2 b) (b2 b)⟩
/-- the locks opened -/
theorem Opds.unlock : ∀ {x : List (PyData × Lk)} {vs : List V} {gs : List Addr} {r : Ro}, Opds K H J fp sg x vs gs → Wf K H J sg r fp → ∃ fp', Wf K H J sg (unlks (x.map (·.2)) r) fp' ∧ ∀ b, Own fp' b → Own fp b ∨ b ∈ gs
  | _, _, _, r, .nil, w => ⟨fp, w, fun b q => .inl q⟩
  | _, _, _, r, .cons (d := d) (l := l) (x := x) (v := v) (g := g) (gs := gs) h n k, w => by
    obtain ⟨fp', w', o'⟩ := k.unlock w
    cases l with
    | none =>
      refine ⟨fp', w', fun b q => (o' b q).imp id fun z => List.mem_append.mpr (.inr z)⟩
    | some p =>
      obtain ⟨oi, s⟩ := p
      cases oi with
      | none => exact ⟨fp', w', fun b q => (o' b q).imp id fun z => List.mem_append.mpr (.inr z)⟩
      | some i =>
      obtain ⟨h1, h2, h3, h4⟩ := h
      have h3 := h3 i rfl
      have hi : i < (unlks (x.map (·.2)) r).length := by
        rw [← w'.len]
        exact (List.getElem?_eq_some_iff.mp h3).1
      refine ⟨fpSet fp' i g, w'.putKeep hi h3 h2 fun b q => ⟨(h4 b q).1, fun j _ z => ?_⟩, fun b q => ?_⟩
      · rcases o' b ⟨j, z⟩ with y | y
        · exact (h4 b q).2 y
        · exact n b q y
      · rcases own_set q with y | y
        · exact .inr (List.mem_append.mpr (.inl y))
        · exact (o' b y).imp id fun z => List.mem_append.mpr (.inr z)
end

section
variable (G : Errs) (K : PySem.W.Frag) (W : WX) (f1 : CE → Ro → R (PyData × Lk))
/-- how an operand's evaluation may end -/
def FinO (sg : St) (H J : Hp) (fp : Nat → List Addr) (x : R (PyData × Lk)) (Q : V → Hp → Prop) : Prop := match x with
  | .ok a r' => ∀ v H' J' fp' g, Wf K H' J' sg r' fp' → Opd K H' J' fp' sg a.1 a.2 v g → Step (Own fp) H J (fun b => Own fp' b ∨ b ∈ g) H' J' → Q v H'
  | .ex c fs r' => ∀ H' J' fp' cls d, Wf K H' J' sg r' fp' → XRep G K H' J' c fs cls d → Step (Own fp) H J (Own fp') H' J' → W cls d sg H'
  | .bad => False
def FinOs (sg : St) (H J : Hp) (fp : Nat → List Addr) (x : R (List (PyData × Lk))) (Q : List V → Hp → Prop) : Prop := match x with
  | .ok a r' => ∀ vs H' J' fp' gs, Wf K H' J' sg r' fp' → Opds K H' J' fp' sg a vs gs → Step (Own fp) H J (fun b => Own fp' b ∨ b ∈ gs) H' J' → Q vs H'
  | .ex c fs r' => ∀ H' J' fp' cls d, Wf K H' J' sg r' fp' → XRep G K H' J' c fs cls d → Step (Own fp) H J (Own fp') H' J' → W cls d sg H'
  | .bad => False
/-- an operand's reading -/
def tOpd (c : CE) : TE := fun sg H Q => ∃ J r fp, Wf K H J sg r fp ∧ FinO G K W sg H J fp (f1 c r) Q
def seqOpd : CEs → TA
  | .nil => tNil
  | .cons c cs => tCons (tOpd G K W f1 c) (seqOpd cs)
end

section
variable {G : Errs} {K : PySem.W.Frag} {W : WX} {f1 : CE → Ro → R (PyData × Lk)} {sg : St}
theorem finO_sh {H J : Hp} {fp : Nat → List Addr} {x : R PyData} {Q : V → Hp → Prop} (h : FinO G K W sg H J fp (x.bind fun d r1 => .ok (d, none) r1) Q) : Fin G K W (RepD K) sg H J fp x Q := by
  cases x with
  | ok d r => exact fun v H' J' fp' g w q n t => h v H' J' fp' g w q t
  | ex c fs r => exact h
  | bad => exact h
theorem seqOpd_of : ∀ (es : CEs) {H J : Hp} {r : Ro} {fp : Nat → List Addr} {Q : List V → Hp → Prop}, Wf K H J sg r fp → FinOs G K W sg H J fp (many f1 es r) Q → seqOpd G K W f1 es sg H Q
  | .nil, H, J, r, fp, Q, w, h => h [] H J fp [] w .nil (nil_step Step.refl)
  | .cons c cs, H, J, r, fp, Q, w, h => by
    have h : FinOs G K W sg H J fp ((f1 c r).bind fun d r1 => (many f1 cs r1).bind fun ds r2 => .ok (d :: ds) r2) Q := h
    refine ⟨J, r, fp, w, ?_⟩
    cases e : f1 c r with
    | bad => rw [e] at h; exact h
    | ex c fs r1 => rw [e] at h; exact h
    | ok a r1 =>
      rw [e] at h
      intro v H1 J1 fp1 g w1 o1 t1
      obtain ⟨d, l⟩ := a
      have off := o1.off
      have key : ∀ {F : Addr → Prop} {H2 J2 : Hp}, Step (Own fp1) H1 J1 F H2 J2 → Step (Own fp) H J (fun b => F b ∨ b ∈ g) H2 J2 := fun {F H2 J2} t2 => by
        have t1' : Step (Own fp) H J (fun b => Own fp1 b ∨ b ∈ g) H1 J1 := t1
        have t2' : Step (fun b => Own fp1 b ∨ b ∈ g) H1 J1 (fun b => F b ∨ b ∈ g) H2 J2 := ⟨t2.js, fun b o q n => t2.fr b o q fun z => n (.inl z), fun b q => q.elim (fun q => (t2.fn b q).imp .inl id) fun q => .inl (.inr q), fun b q => (t2.jg b q).imp id fun z => z.imp .inl id⟩
        exact t1'.trans t2'
      refine seqOpd_of cs w1 ?_
      show FinOs G K W sg H1 J1 fp1 (many f1 cs r1) _
      cases e2 : many f1 cs r1 with
      | bad =>
        have h' : FinOs G K W sg H J fp ((R.ok (d, l) r1).bind fun d r1 => (many f1 cs r1).bind fun ds r2 => .ok (d :: ds) r2) Q := h
        simp only [R.bind, e2] at h'
        exact h'
      | ex c fs r2 =>
        have h' : FinOs G K W sg H J fp ((R.ok (d, l) r1).bind fun d r1 => (many f1 cs r1).bind fun ds r2 => .ok (d :: ds) r2) Q := h
        simp only [R.bind, e2] at h'
        exact fun H2 J2 fp2 cls dd w2 x2 t2 => h' H2 J2 fp2 cls dd w2 x2 ((key t2).weak fun b z => .inl z)
      | ok x r2 =>
        have h' : FinOs G K W sg H J fp ((R.ok (d, l) r1).bind fun d r1 => (many f1 cs r1).bind fun ds r2 => .ok (d :: ds) r2) Q := h
        simp only [R.bind, e2] at h'
        intro vs H2 J2 fp2 gs w2 o2 t2
        obtain ⟨o3, n3⟩ := o1.step t2
        refine h' (v :: vs) H2 J2 fp2 (g ++ gs) w2 (.cons o3 n3 o2) ((key t2).weak fun b q => ?_)
        rcases q with q | q
        · exact .inl (.inl q)
        · exact (List.mem_append.mp q).elim .inr fun z => .inl (.inr z)
end
end Ev
end

section
set_option Elab.async false
set_option linter.all false
set_option maxRecDepth 100000
namespace Ev
open PySem L2

/-! ### the built-in operations at values -/
inductive Vws (K : PySem.W.Frag) (H J : Hp) : List V → List PyData → Prop
  | nil : Vws K H J [] []
  | cons {v : V} {vs : List V} {d : PyData} {ds : List PyData} : Vw K H J v d → Vws K H J vs ds → Vws K H J (v :: vs) (d :: ds)
/-- what is wanted of an operation's value: it makes new objects at most -/
def PrimQ (K : PySem.W.Frag) (H J : Hp) (s : Slot) (Q : VK) : Prop :=
  ∀ v H' J' g, RepS K H' J' s v g → (∀ b ∈ g, J' b = none ∧ H b = none) → Step (fun _ => False) H J (fun b => b ∈ g) H' J' → Same J' H' → Q v H'
def rPrim (K : PySem.W.Frag) (o : Op) : List V → Hp → VK → Prop := fun vs H Q => ∃ J ds s, Same J H ∧ Vws K H J vs ds ∧ prim o ds = some s ∧ PrimQ K H J s Q
abbrev rPrim2 (K : PySem.W.Frag) (o : Op) : R2 := fun x y H Q => rPrim K o [x, y] H Q

section
variable {K : PySem.W.Frag} {H J : Hp} {Q : VK}
theorem Vw.int {v : V} {i : Int} (h : Vw K H J v (.int i)) : v = .int i := by
  rcases h with h | ⟨_, _, _, _, e, _⟩
  · cases h; rfl
  · cases e
theorem Vw.bl {v : V} {i : Bool} (h : Vw K H J v (.bool i)) : v = .bl i := by
  rcases h with h | ⟨_, _, _, _, e, _⟩
  · cases h; rfl
  · cases e
theorem Vw.str {v : V} {i : Str} (h : Vw K H J v (.str i)) : v = .str i := by
  rcases h with h | ⟨_, _, _, _, e, _⟩
  · cases h; rfl
  · cases e
theorem Vw.list {v : V} {ds : List PyData} (sm : Same J H) (h : Vw K H J v (.list ds)) : ∃ a xs, v = .ref a ∧ H a = some (.lst xs) ∧ ShAll K J xs ds := by
  rcases h with h | ⟨a, xs, es, e1, e, h1, h2⟩
  · cases h with
    | lst h g => exact ⟨_, _, rfl, sm _ _ h, g⟩
  · cases e; exact ⟨a, xs, e1, h1, h2⟩
theorem Vw.tuple {v : V} {ds : List PyData} (sm : Same J H) (h : Vw K H J v (.tuple ds)) : ∃ a xs, v = .ref a ∧ J a = some (.tup xs) ∧ H a = some (.tup xs) ∧ ShAll K J xs ds := by
  rcases h with h | ⟨a, xs, es, e1, e, h1, h2⟩
  · cases h with
    | tup h g => exact ⟨_, _, rfl, h, sm _ _ h, g⟩
  · cases e
theorem Vw.scr {v : V} {ds : List PyData} (sm : Same J H) (h : Vw K H J v (.dict [(.none, .list ds)])) : ∃ a xs, v = .ref a ∧ SqL K H a xs ∧ ShAll K J xs ds := by
  rcases h with h | ⟨a, xs, es, e1, e, h1, h2⟩
  · generalize e : PyData.dict [(.none, .list ds)] = z at h
    cases h with
    | scr h =>
      injection e with e
      injection e with e _
      injection e with _ e
      injection e with e
      subst e
      exact ⟨_, _, rfl, sm.seq h, shsInts _⟩
    | _ => cases e
  · cases e
theorem Vw.dp {v : V} {d : PyData} (sm : Same J H) (c : d.canLay0 = true) (h : Vw K H J v d) : Dp K H v d := by
  rcases h with h | ⟨a, xs, ds, rfl, rfl, h1, h2⟩
  · exact shDp c (shMono sm h)
  · exact .lst (.of h1) (shsDp (by simpa [PyData.canLay0] using c) (shsMono sm h2))
theorem Vws.one {vs : List V} {d : PyData} (h : Vws K H J vs [d]) : ∃ v, vs = [v] ∧ Vw K H J v d := by
  cases h with
  | cons a b => cases b; exact ⟨_, rfl, a⟩
theorem Vws.two {vs : List V} {d e : PyData} (h : Vws K H J vs [d, e]) : ∃ v u, vs = [v, u] ∧ Vw K H J v d ∧ Vw K H J u e := by
  cases h with
  | cons a b =>
    obtain ⟨u, rfl, c⟩ := b.one
    exact ⟨_, _, rfl, a, c⟩
theorem Vws.two' {v u : V} {d e : PyData} (h : Vws K H J [v, u] [d, e]) : Vw K H J v d ∧ Vw K H J u e := by
  obtain ⟨_, _, z, a, b⟩ := h.two
  cases z; exact ⟨a, b⟩
theorem Vws.one' {v : V} {d : PyData} (h : Vws K H J [v] [d]) : Vw K H J v d := by
  obtain ⟨_, z, a⟩ := h.one
  cases z; exact a
/-- nothing new -/
theorem PrimQ.val {v : V} {d : PyData} (q : PrimQ K H J (.sh d) Q) (sm : Same J H) (h : Sh K J v d) : Q v H :=
  q v H J [] ⟨rfl, h⟩ (fun b z => nomatch z) ⟨Same.refl _, fun _ _ h _ => h, (fun _ z => nomatch z), fun _ z => .inl z⟩ sm
/-- a new tuple -/
theorem PrimQ.tup {p : Addr} {xs : List V} {ds : List PyData} (q : PrimQ K H J (.sh (.tuple ds)) Q) (sm : Same J H) (hp : H p = none) (h : ShAll K J xs ds) : Q (.ref p) (upd H p (.tup xs)) := by
  have st : Step (fun _ => False) H J (fun _ => False) (upd H p (.tup xs)) (upd J p (.tup xs)) := step_new sm hp
  exact q _ _ (upd J p (.tup xs)) [] ⟨rfl, .tup upd_same (shsMono st.js h)⟩ (fun b z => nomatch z) (st.weak fun _ z => nomatch z) (same_upd2 sm)
/-- a new list -/
theorem PrimQ.lst {p : Addr} {xs : List V} {ds : List PyData} (q : PrimQ K H J (.lst ds) Q) (sm : Same J H) (hp : H p = none) (h : ShAll K J xs ds) : Q (.ref p) (upd H p (.lst xs)) := by
  have st : Step (fun _ => False) H J (fun b => False ∨ b = p) (upd H p (.lst xs)) J := step_own hp
  have jp : J p = none := by
    cases e : J p with
    | none => rfl
    | some o => rw [sm _ _ e] at hp; cases hp
  refine q _ _ J [p] ⟨p, xs, rfl, rfl, upd_same, h⟩ (fun b z => ?_) (st.weak fun b z => .inr (List.mem_singleton.mp z)) (same_upd sm hp)
  cases List.mem_singleton.mp z
  exact ⟨jp, hp⟩
end

theorem shsRep {K : PySem.W.Frag} {J : Hp} {xs : List V} {ds : List PyData} (h : ShAll K J xs ds) : ∀ k : Nat, ShAll K J (List.replicate k xs).flatten (List.replicate k ds).flatten
  | 0 => .nil
  | k + 1 => by
    rw [List.replicate_succ, List.replicate_succ, List.flatten_cons, List.flatten_cons]
    exact shsApp h (shsRep h k)
/-- each value with its data -/
theorem shsEach {K : PySem.W.Frag} {J : Hp} : ∀ {vs : List V} {ds : List PyData}, ShAll K J vs ds → ∀ {us : List Value}, Vals vs us → PySem.W.EachIs (fun u d => ∃ v, RelV v u ∧ Sh K J v d) us ds
  | _, _, .nil, _, .nil => .nil
  | _, _, .cons h g, _, .cons r t => .cons ⟨_, r, h⟩ (shsEach g t)
theorem eachShs {K : PySem.W.Frag} {J : Hp} : ∀ {us : List Value} {ds : List PyData}, PySem.W.EachIs (fun u d => ∃ v, RelV v u ∧ Sh K J v d) us ds → ∃ vs, Vals vs us ∧ ShAll K J vs ds
  | _, _, .nil => ⟨[], .nil, .nil⟩
  | _, _, .cons ⟨v, r, h⟩ t => by
    obtain ⟨vs, a, b⟩ := eachShs t
    exact ⟨v :: vs, .cons r a, .cons h b⟩
theorem pSorted_some {ds : List PyData} {t : Slot} (h : pSorted ds = some t) : ∃ es, ds = [.list es] ∧ sortB es = true ∧ t = .lst (es.mergeSort leD) := by
  unfold pSorted at h
  split at h
  · split at h
    · cases h; exact ⟨_, rfl, by assumption, rfl⟩
    · cases h
  · cases h
section
variable {X : Cx}
theorem pm_sorted (hu : X.A.units + 64 < cLine) : CallR X (.builtin "sorted") (rPrim X.K .sorted) := by
  intro pins s sg H vs us Q I rv h
  obtain ⟨J, ds, t, sm, vw, hp, q⟩ := h
  obtain ⟨es, rfl, hz, rfl⟩ := pSorted_some hp
  obtain ⟨v, rfl, a⟩ := vw.one
  obtain ⟨l, xs, rfl, ha, ga⟩ := a.list sm
  cases rv with
  | cons r1 r2 =>
    cases r2
    cases r1
    obtain ⟨hl, its, n, rits, eo⟩ := (show ObjOk X.prog X.w H s.heap l (.lst xs) from I.hok l _ ha)
    simp only [sortB, alikeB, Bool.and_eq_true, Bool.or_eq_true, List.all_eq_true] at hz
    obtain ⟨⟨h1, h2⟩, h3⟩ := hz
    have hal : PySem.W.AllAlike es := fun d hd d' hd' => h1 d hd d' hd'
    have hk : PySem.W.Sortable es := by
      rcases h2 with h2 | h2
      · refine .inl fun d hd => ?_
        have := h2 d hd
        unfold neTup at this
        split at this
        · exact ⟨_, _, rfl⟩
        · cases this
      · refine .inr fun d hd => ?_
        have := h2 d hd
        unfold noTup at this
        refine ⟨fun z => ?_, fun xs z => ?_⟩
        · rw [z] at this; cases this
        · rw [z] at this; cases this
    have e1 := shsEach ga rits
    have er : PySem.W.EachIs (fun v b => ∃ as, Reads s.heap v (id b) as) its es := by
      have e2 := PySem.W.each_mem e1
      exact e2.mono fun u d ⟨⟨v, r, hs⟩, hd⟩ => Dp.reads I d v u (shDp (h3 d hd).1 (shMono sm hs)) r
    refine PySem.W.sorted_data (enc := id) (bs := es) ⟨_, eo, rfl, n, rfl⟩ e1 er (by rw [List.map_id]; exact hal) (by rw [List.map_id]; exact hk) (by rw [← shsLen ga]; exact hl) (fun b hb => ?_) fun out ho eout => ?_
    · have := (h3 b hb).2
      have := of_decide_eq_true this
      show X.A.units + 2 + b.depth < cLine
      omega
    · obtain ⟨ws, r3, s3⟩ := eachShs eout
      obtain ⟨c, hc⟩ := PyProof.Rows.sortedAll_at s.heap its out.toArray
      have hfr : H (s.heap.objs.size + 1) = none := I.hok.fresh (Nat.le_succ _)
      have hlen : ws.length ≤ sizeLine := by rw [r3.length, ho, ← shsLen ga]; exact hl
      refine ⟨.ref _, upd H (s.heap.objs.size + 1) (.lst ws), I.laid (t' := s.toks) (fun _ _ => PyProof.Rows.sortedAll_old) (Nat.le_succ _) ⟨hlen, out, _, r3, hc⟩, rfl, q.lst sm hfr ?_⟩
      exact s3
def tyN : PyData → String
  | .none => "NoneType" | .bool _ => "bool" | .int _ => "int" | .str _ => "str" | .list _ => "list" | .tuple _ => "tuple" | .dict _ => "dict"
theorem tyD_kit {d : PyData} {t : String} {b : Bool} (h : tyD d t = some b) : kitB (tyN d) t = some b := by
  have k : ∀ a : String, a = "NoneType" ∨ a = "bool" ∨ a = "int" ∨ a = "str" ∨ a = "list" ∨ a = "tuple" → True := fun _ _ => trivial
  cases d <;> simp only [tyD] at h <;> (repeat' (split at h)) <;> (try (cases h; done)) <;> (rename_i q; cases h) <;> simp only [tyN] <;> (rcases q with rfl | rfl | rfl | rfl | rfl | rfl) <;> decide +kernel
theorem Vw.ty {K : PySem.W.Frag} {H J : Hp} {v : V} {d : PyData} (sm : Same J H) (hd : ∀ kv, d ≠ .dict kv) (h : Vw K H J v d) : TyX K H v (.type (tyN d)) := by
  rcases h with h | ⟨a, xs, ds, rfl, rfl, h1, h2⟩
  · cases h with
    | non => exact .base .non
    | bl b => exact .base (.bl b)
    | int i => exact .base (.int i)
    | str x => exact .base (.str x)
    | lst h g => exact .base (.lst (sm _ _ h))
    | tup h g => exact .base (.tup (sm _ _ h))
    | scr h => exact absurd rfl (hd _)
  · exact .base (.lst h1)
def rIsiP (K : PySem.W.Frag) (t : String) : List V → Hp → VK → Prop := fun vs H Q => ∃ x, vs = [x, .ty t] ∧ rPrim K (.isi t) [x] H Q
theorem pm_isi {t : String} : CallR X (.builtin "isinstance") (rIsiP X.K t) := by
  intro pins s sg H vs us Q I rv h
  obtain ⟨x, rfl, J, ds, tt, sm, vw, hp, q⟩ := h
  have hp : pIsi t ds = some tt := hp
  unfold pIsi at hp
  split at hp
  · obtain ⟨b, hb, rfl⟩ := Option.map_eq_some_iff.mp hp
    exact call_isi pins s sg H _ us Q I rv ⟨x, .ty t, _, _, b, rfl, .ty t, vw.one'.ty sm (fun kv z => by rw [z] at hb; cases hb), kit_ty (tyD_kit hb), q.val sm (.bl b)⟩
  · cases hp
theorem pm_add : OpR X (binaryOp .Add) (rPrim2 X.K .add) := by
  intro pins s sg H x y v u Q I rx ry h
  obtain ⟨J, ds, t, sm, vw, hp, q⟩ := h
  have hp : pAdd ds = some t := hp
  unfold pAdd at hp
  split at hp
  · cases hp
    obtain ⟨a, b⟩ := vw.two'
    exact op_add pins s sg H x y v u Q I rx ry ⟨_, _, a.int, b.int, q.val sm (.int _)⟩
  · obtain ⟨a, b⟩ := vw.two'
    obtain ⟨l, xs, rfl, ha, ga⟩ := a.list sm
    obtain ⟨m, ys, rfl, hb, gb⟩ := b.list sm
    split at hp
    · rename_i hz
      cases hp
      refine op_cat pins s sg H _ _ v u Q I rx ry ⟨l, m, xs, ys, rfl, rfl, ha, hb, ?_, fun p hp => q.lst sm hp (shsApp ga gb)⟩
      rw [shsLen ga, shsLen gb]
      exact of_decide_eq_true hz
    · cases hp
  · obtain ⟨a, b⟩ := vw.two'
    obtain ⟨l, xs, rfl, ja, ha, ga⟩ := a.tuple sm
    obtain ⟨m, ys, rfl, jb, hb, gb⟩ := b.tuple sm
    split at hp
    · rename_i a' b' hz
      cases hp
      refine op_catA pins s sg H _ _ v u Q I rx ry ⟨l, m, xs, ys, rfl, rfl, .of ha, .of hb, ?_, fun e => ?_, fun _ e => ?_, fun _ _ p hp => q.tup sm hp (shsApp ga gb)⟩
      · rw [shsLen ga, shsLen gb]
        exact of_decide_eq_true hz
      · subst e
        cases ga
        exact q.val sm (.tup jb gb)
      · subst e
        cases gb
        rw [List.append_nil] at q
        exact q.val sm (.tup ja ga)
    · cases hp
  · cases hp
theorem pm_sub : OpR X (binaryOp .Sub) (rPrim2 X.K .sub) := by
  intro pins s sg H x y v u Q I rx ry h
  obtain ⟨J, ds, t, sm, vw, hp, q⟩ := h
  have hp : pSub ds = some t := hp
  unfold pSub at hp
  split at hp
  · cases hp
    obtain ⟨a, b⟩ := vw.two'
    exact op_sub pins s sg H x y v u Q I rx ry ⟨_, _, a.int, b.int, q.val sm (.int _)⟩
  · cases hp
theorem pm_mul : OpR X (binaryOp .Mult) (rPrim2 X.K .mul) := by
  intro pins s sg H x y v u Q I rx ry h
  obtain ⟨J, ds, t, sm, vw, hp, q⟩ := h
  have hp : pMul ds = some t := hp
  unfold pMul at hp
  split at hp
  · obtain ⟨a, b⟩ := vw.two'
    obtain ⟨l, xs, rfl, ha, ga⟩ := a.list sm
    split at hp
    · rename_i hz
      cases hp
      simp only [Bool.and_eq_true, decide_eq_true_eq] at hz
      obtain ⟨⟨hz0, hz1⟩, hz2⟩ := hz
      exact op_rep pins s sg H _ _ v u Q I rx ry ⟨l, _, xs, rfl, b.int, ha, by omega, by omega, by rw [shsLen ga, sizeLine_eq]; exact of_decide_eq_true hz2, fun p hp => q.lst sm hp (shsRep ga _)⟩
    · cases hp
  · obtain ⟨a, b⟩ := vw.two'
    split at hp
    · rename_i hz
      cases hp
      refine op_mul pins s sg H x y v u Q I rx ry ⟨_, _, a.int, b.int, ?_, q.val sm (.int _)⟩
      simp only [Bool.or_eq_true, decide_eq_true_eq] at hz
      unfold CMul
      omega
    · cases hp
  · cases hp
theorem pm_fdiv : OpR X (binaryOp .FloorDiv) (rPrim2 X.K .fdiv) := by
  intro pins s sg H x y v u Q I rx ry h
  obtain ⟨J, ds, t, sm, vw, hp, q⟩ := h
  have hp : pFdiv ds = some t := hp
  unfold pFdiv at hp
  split at hp
  · obtain ⟨a, b⟩ := vw.two'
    split at hp
    · rename_i hz
      cases hp
      refine op_fdivW pins s sg H x y v u Q I rx ry ⟨_, _, a.int, b.int, ?_, q.val sm (.int _)⟩
      simp only [Bool.and_eq_true, decide_eq_true_eq] at hz
      exact wide_div (b := 256) hz.1 (by omega) (by decide) (by decide)
    · cases hp
  · cases hp
theorem pm_mod : OpR X (binaryOp .Mod) (rPrim2 X.K .mod) := by
  intro pins s sg H x y v u Q I rx ry h
  obtain ⟨J, ds, t, sm, vw, hp, q⟩ := h
  have hp : pMod ds = some t := hp
  unfold pMod at hp
  split at hp
  · obtain ⟨a, b⟩ := vw.two'
    split at hp
    · rename_i hz
      cases hp
      exact op_mod pins s sg H x y v u Q I rx ry ⟨_, _, a.int, b.int, of_decide_eq_true hz, q.val sm (.int _)⟩
    · cases hp
  · cases hp
theorem pm_pow : OpR X (binaryOp .Pow) (rPrim2 X.K .pow) := by
  intro pins s sg H x y v u Q I rx ry h
  obtain ⟨J, ds, t, sm, vw, hp, q⟩ := h
  have hp : pPow ds = some t := hp
  unfold pPow at hp
  split at hp
  · obtain ⟨a, b⟩ := vw.two'
    split at hp
    · rename_i hz
      cases hp
      refine op_pow pins s sg H x y v u Q I rx ry ⟨_, _, a.int, b.int, ?_, q.val sm (.int _)⟩
      simp only [Bool.and_eq_true, decide_eq_true_eq] at hz
      exact ⟨hz.1.1, hz.1.2, hz.2⟩
    · cases hp
  · cases hp
theorem pm_neg : UnR X (unaryOp .USub) (fun x H Q => rPrim X.K .neg [x] H Q) := by
  intro pins s sg H x v Q I rx h
  obtain ⟨J, ds, t, sm, vw, hp, q⟩ := h
  have hp : pNeg ds = some t := hp
  unfold pNeg at hp
  split at hp
  · cases hp
    exact un_neg pins s sg H x v Q I rx ⟨_, vw.one'.int, q.val sm (.int _)⟩
  · cases hp
theorem shp_lay {d : PyData} (h : shp d = true) : d.canLay0 = true := by
  unfold shp SeqAt.shaped at h
  simp only [Bool.and_eq_true] at h
  exact h.1
theorem pm_eq (hu : X.A.units + 64 < cLine) : OpR X (compareOp .Eq) (rPrim2 X.K .eq) := by
  intro pins s sg H x y v u Q I rx ry h
  obtain ⟨J, ds, t, sm, vw, hp, q⟩ := h
  have hp : pEq ds = some t := hp
  unfold pEq at hp
  split at hp
  · obtain ⟨a, b⟩ := vw.two'
    split at hp
    · rename_i hz
      cases hp
      simp only [Bool.and_eq_true] at hz
      exact op_eqD hu pins s sg H x y v u Q I rx ry ⟨_, _, a.dp sm (shp_lay hz.1), b.dp sm (shp_lay hz.2), hz.1, hz.2, q.val sm (.bl _)⟩
    · cases hp
  · cases hp
theorem pm_ne (hu : X.A.units + 64 < cLine) : OpR X (compareOp .NotEq) (rPrim2 X.K .ne) := by
  intro pins s sg H x y v u Q I rx ry h
  obtain ⟨J, ds, t, sm, vw, hp, q⟩ := h
  have hp : pNe ds = some t := hp
  unfold pNe at hp
  split at hp
  · obtain ⟨a, b⟩ := vw.two'
    split at hp
    · rename_i hz
      cases hp
      simp only [Bool.and_eq_true] at hz
      exact op_neD hu pins s sg H x y v u Q I rx ry ⟨_, _, a.dp sm (shp_lay hz.1), b.dp sm (shp_lay hz.2), hz.1, hz.2, q.val sm (.bl _)⟩
    · cases hp
  · cases hp
theorem pm_lt : OpR X (compareOp .Lt) (rPrim2 X.K .lt) := by
  intro pins s sg H x y v u Q I rx ry h
  obtain ⟨J, ds, t, sm, vw, hp, q⟩ := h
  have hp : pLt ds = some t := hp
  unfold pLt at hp
  split at hp
  · cases hp
    obtain ⟨a, b⟩ := vw.two'
    exact op_lt pins s sg H x y v u Q I rx ry ⟨_, _, a.int, b.int, q.val sm (.bl _)⟩
  · cases hp
theorem pm_le : OpR X (compareOp .LtE) (rPrim2 X.K .le) := by
  intro pins s sg H x y v u Q I rx ry h
  obtain ⟨J, ds, t, sm, vw, hp, q⟩ := h
  have hp : pLe ds = some t := hp
  unfold pLe at hp
  split at hp
  · cases hp
    obtain ⟨a, b⟩ := vw.two'
    exact op_le pins s sg H x y v u Q I rx ry ⟨_, _, a.int, b.int, q.val sm (.bl _)⟩
  · cases hp
theorem pm_gt : OpR X (compareOp .Gt) (rPrim2 X.K .gt) := by
  intro pins s sg H x y v u Q I rx ry h
  obtain ⟨J, ds, t, sm, vw, hp, q⟩ := h
  have hp : pGt ds = some t := hp
  unfold pGt at hp
  split at hp
  · cases hp
    obtain ⟨a, b⟩ := vw.two'
    exact op_gt pins s sg H x y v u Q I rx ry ⟨_, _, a.int, b.int, q.val sm (.bl _)⟩
  · cases hp
theorem pm_ge : OpR X (compareOp .GtE) (rPrim2 X.K .ge) := by
  intro pins s sg H x y v u Q I rx ry h
  obtain ⟨J, ds, t, sm, vw, hp, q⟩ := h
  have hp : pGe ds = some t := hp
  unfold pGe at hp
  split at hp
  · cases hp
    obtain ⟨a, b⟩ := vw.two'
    exact op_ge pins s sg H x y v u Q I rx ry ⟨_, _, a.int, b.int, q.val sm (.bl _)⟩
  · cases hp
theorem pm_item : IxR X (rPrim2 X.K .item) := by
  intro value slice pins s sg H x y v u Q I rx ry h hs
  obtain ⟨J, ds, t, sm, vw, hp, q⟩ := h
  have hp : pItem ds = some t := hp
  unfold pItem at hp
  split at hp
  · obtain ⟨a, b⟩ := vw.two'
    obtain ⟨l, xs, rfl, ha, ga⟩ := a.list sm
    obtain ⟨d, hd, rfl⟩ := Option.map_eq_some_iff.mp hp
    obtain ⟨w, hw, gw⟩ := shsAt ga hd
    exact ix_list value slice pins s sg H _ _ v u Q I rx ry ⟨l, xs, _, w, rfl, b.int, .of ha, hw, q.val sm gw⟩ hs
  · obtain ⟨a, b⟩ := vw.two'
    obtain ⟨l, xs, rfl, _, ha, ga⟩ := a.tuple sm
    obtain ⟨d, hd, rfl⟩ := Option.map_eq_some_iff.mp hp
    obtain ⟨w, hw, gw⟩ := shsAt ga hd
    exact ix_tup value slice pins s sg H _ _ v u Q I rx ry ⟨l, xs, _, w, rfl, b.int, .of ha, hw, q.val sm gw⟩ hs
  · obtain ⟨a, b⟩ := vw.two'
    obtain ⟨l, xs, rfl, ha, ga⟩ := a.scr sm
    obtain ⟨d, hd, rfl⟩ := Option.map_eq_some_iff.mp hp
    obtain ⟨w, hw, gw⟩ := shsAt ga hd
    exact ix_list value slice pins s sg H _ _ v u Q I rx ry ⟨l, xs, _, w, rfl, b.int, ha, hw, q.val sm gw⟩ hs
  · cases hp
theorem pm_len : CallR X (.builtin "len") (rPrim X.K .len) := by
  intro pins s sg H vs us Q I rv h
  obtain ⟨J, ds, t, sm, vw, hp, q⟩ := h
  have hp : pLen ds = some t := hp
  unfold pLen at hp
  split at hp
  · cases hp
    obtain ⟨v, rfl, a⟩ := vw.one
    obtain ⟨l, xs, rfl, ha, ga⟩ := a.list sm
    exact call_len_seq pins s sg H _ us Q I rv ⟨l, xs, rfl, .inl (.of ha), by rw [shsLen ga]; exact q.val sm (.int _)⟩
  · cases hp
    obtain ⟨v, rfl, a⟩ := vw.one
    obtain ⟨l, xs, rfl, _, ha, ga⟩ := a.tuple sm
    exact call_len_seq pins s sg H _ us Q I rv ⟨l, xs, rfl, .inr (.of ha), by rw [shsLen ga]; exact q.val sm (.int _)⟩
  · cases hp
    obtain ⟨v, rfl, a⟩ := vw.one
    obtain ⟨l, xs, rfl, ha, ga⟩ := a.scr sm
    exact call_len_seq pins s sg H _ us Q I rv ⟨l, xs, rfl, .inl ha, by rw [shsLen ga]; exact q.val sm (.int _)⟩
  · cases hp
theorem pm_max2 (hc : X.calm = true) : CallR X (.builtin "max") (rPrim X.K .max2) := by
  intro pins s sg H vs us Q I rv h
  obtain ⟨J, ds, t, sm, vw, hp, q⟩ := h
  have hp : pMax2 ds = some t := hp
  unfold pMax2 at hp
  split at hp
  · cases hp
    obtain ⟨v, u, rfl, a, b⟩ := vw.two
    rw [a.int, b.int] at rv
    exact call_max2 hc pins s sg H _ us Q I rv ⟨_, _, rfl, q.val sm (.int _)⟩
  · cases hp
theorem pm_min2 (hc : X.calm = true) : CallR X (.builtin "min") (rPrim X.K .min2) := by
  intro pins s sg H vs us Q I rv h
  obtain ⟨J, ds, t, sm, vw, hp, q⟩ := h
  have hp : pMin2 ds = some t := hp
  unfold pMin2 at hp
  split at hp
  · cases hp
    obtain ⟨v, u, rfl, a, b⟩ := vw.two
    rw [a.int, b.int] at rv
    exact call_min2 hc pins s sg H _ us Q I rv ⟨_, _, rfl, q.val sm (.int _)⟩
  · cases hp
theorem pm_list : CallR X (.type "list") (rPrim X.K .list_) := by
  intro pins s sg H vs us Q I rv h
  obtain ⟨J, ds, t, sm, vw, hp, q⟩ := h
  have hp : pList ds = some t := hp
  unfold pList at hp
  split at hp
  · cases hp
    obtain ⟨v, rfl, a⟩ := vw.one
    obtain ⟨l, xs, rfl, ha, ga⟩ := a.list sm
    exact call_list_of pins s sg H _ us Q I rv ⟨l, xs, rfl, .inl (.of ha), fun p hp => q.lst sm hp ga⟩
  · cases hp
    obtain ⟨v, rfl, a⟩ := vw.one
    obtain ⟨l, xs, rfl, _, ha, ga⟩ := a.tuple sm
    exact call_list_of pins s sg H _ us Q I rv ⟨l, xs, rfl, .inr (.of ha), fun p hp => q.lst sm hp ga⟩
  · cases hp
theorem pm_tuple : CallR X (.type "tuple") (rPrim X.K .tuple_) := by
  intro pins s sg H vs us Q I rv h
  obtain ⟨J, ds, t, sm, vw, hp, q⟩ := h
  have hp : pTuple ds = some t := hp
  unfold pTuple at hp
  split at hp
  · cases hp
    obtain ⟨v, rfl, a⟩ := vw.one
    obtain ⟨l, xs, rfl, ha, ga⟩ := a.list sm
    exact call_tuple_of pins s sg H _ us Q I rv ⟨l, xs, rfl, .inl ⟨.of ha, fun p hp => q.tup sm hp ga⟩⟩
  · cases hp
    obtain ⟨v, rfl, a⟩ := vw.one
    obtain ⟨l, xs, rfl, ja, ha, ga⟩ := a.tuple sm
    exact call_tuple_of pins s sg H _ us Q I rv ⟨l, xs, rfl, .inr ⟨.of ha, q.val sm (.tup ja ga)⟩⟩
  · cases hp
theorem pm_int : CallR X (.type "int") (rPrim X.K .int_) := by
  intro pins s sg H vs us Q I rv h
  obtain ⟨J, ds, t, sm, vw, hp, q⟩ := h
  have hp : pInt ds = some t := hp
  unfold pInt at hp
  split at hp
  · cases hp
    obtain ⟨v, rfl, a⟩ := vw.one
    rw [a.int] at rv
    exact call_int1 pins s sg H _ us Q I rv (.inl ⟨_, rfl, q.val sm (.int _)⟩)
  · cases hp
    obtain ⟨v, rfl, a⟩ := vw.one
    rw [a.bl] at rv
    exact call_int1 pins s sg H _ us Q I rv (.inr ⟨_, rfl, q.val sm (.int _)⟩)
  · cases hp
end
end Ev
end

section
set_option Elab.async false
set_option linter.all false
set_option maxRecDepth 100000
set_option backward.match.sparseCases false
namespace Ev
open PySem L2

/-! ### the text against the evaluator's terms -/
/-- what the program's top holds -/
structure Tx where
  names : List Str
  consts : List (Str × PyData)
structure Prg where
  errs : Errs
  tx : Tx

def cstIs : Const → PyData → Bool
  | .none, .none => true
  | .bool a, .bool b => a == b
  | .int a, .int b => decide (a = b)
  | .str a, .str b => decide (a = b)
  | _, _ => false

section
variable (P : Tx) (N : List Str)
/-- a name of a slot -/
def isV (sc : Scope) (i : Nat) (x : Str) : Bool :=
  decide (N[i]? = some x) && (match sc.names.lookup x with | some .local => true | some .cell => true | some .free => true | _ => false) && !(x == ("__debug__" : Str)) && !(x == ("__classdict__" : Str))
/-- a name that may be stored to -/
def isL (sc : Scope) (fb : Str → Bool) (i : Nat) (x : Str) : Bool :=
  decide (N[i]? = some x) && (match sc.names.lookup x with | some .local => true | some .cell => fb x | _ => false)
/-- a name of the module or a built-in one -/
def isG (sc : Scope) (x : Str) : Bool := (match sc.names.lookup x with | some .globalImplicit => true | _ => false) && !(x == ("__debug__" : Str))

mutual
def okT (sc : Scope) (fb : Str → Bool) : CT → Expr → Bool
  | .name i, .Name x _ => isL N sc fb i x
  | .tup ts, .Tuple l _ _ => okTs sc fb ts l
  | _, _ => false
def okTs (sc : Scope) (fb : Str → Bool) : CTs → List Expr → Bool
  | .nil, [] => true
  | .cons t ts, e :: l => okT sc fb t e && okTs sc fb ts l
  | _, _ => false
end
mutual
def slotsT : CT → List Nat
  | .name i => [i]
  | .tup ts => slotsTs ts
def slotsTs : CTs → List Nat
  | .nil => []
  | .cons t ts => slotsT t ++ slotsTs ts
end

def tyOk (t : String) : Bool := t == "int" || t == "bool" || t == "str" || t == "list" || t == "tuple" || t == "dict"
def bname : Op → Option Str
  | .len => some "len" | .max2 => some "max" | .min2 => some "min" | .list_ => some "list" | .tuple_ => some "tuple" | .int_ => some "int" | .sorted => some "sorted"
  | _ => none
def binOf : Op → Option Operator
  | .add => some .Add | .sub => some .Sub | .mul => some .Mult | .fdiv => some .FloorDiv | .mod => some .Mod | .pow => some .Pow
  | _ => none
def cmpOf : Op → Option CmpOp
  | .eq => some .Eq | .ne => some .NotEq | .lt => some .Lt | .le => some .LtE | .gt => some .Gt | .ge => some .GtE
  | _ => none
def isSlice : Expr → Bool
  | .Slice _ _ _ _ => true
  | _ => false
def isSet : Expr → Bool
  | .Set _ _ _ => true
  | _ => false
def isStar : Expr → Bool
  | .Starred _ _ => true
  | _ => false
def isLc : Expr → Bool
  | .ListComp _ _ _ _ => true
  | .SetComp _ _ _ _ => true
  | .DictComp _ _ _ _ _ => true
  | _ => false
def isiOf : Op → Option String
  | .isi t => some t
  | _ => none
def nameOf : Expr → Option Str
  | .Name x _ => some x
  | _ => none
def isiForm (sc : Scope) (o : Op) (x : Str) (a : Expr) (as : List Expr) : Option (List Expr) :=
  match isiOf o with
  | some t => if decide (x = "isinstance") && decide (as.map nameOf = [some (Str.ofString t)]) && isG sc x && isG sc (Str.ofString t) && tyOk t then some [a] else none
  | none => none
def badE : Expr → Bool
  | .Starred _ _ => true
  | .Set _ _ _ => true
  | .SetComp _ _ _ _ => true
  | .DictComp _ _ _ _ _ => true
  | _ => false
/-- the operands of an operation of the text -/
def opForm (sc : Scope) (o : Op) : Expr → Option (List Expr)
  | .BinOp a op b _ => if binOf o = some op then some [a, b] else none
  | .Compare a [op] [b] _ => if cmpOf o = some op && !isSet b then some [a, b] else none
  | .UnaryOp .USub a _ => if o = .neg then some [a] else none
  | .Subscript a b _ => if o = .item && !isSlice b then some [a, b] else none
  | .Call (.Name x _) (a :: as) [] _ => if (isiOf o).isSome then isiForm sc o x a as else if bname o = some x && isG sc x then some (a :: as) else none
  | _ => none

def mthd (m : Str) (i : Nat) (sc : Scope) : Expr → Option Expr
  | .Call (.Attribute (.Name x _) a ap) [e] [] cp => if decide (a = m) && isV N sc i x && !isStar e && (ap.endLine == cp.line) then some e else none
  | _ => none

mutual
def okE (sc : Scope) : CE → Expr → Bool
  | .var i, .Name x _ => isV N sc i x
  | .ref i, .Name x _ => isV N sc i x
  | .own c, e => okE sc c e && !badE e
  | .pop i c, e => (match mthd N "pop" i sc e with | some x => okE sc c x | none => false)
  | .cst d, .Constant c _ _ => cstIs c d
  | .glob y d, .Name x _ => decide (x = y) && isG sc x && (match P.consts.lookup x with | some (.int j) => cstIs (.int j) d | some (.str j) => cstIs (.str j) d | _ => false)
  | .op o es, e => (match opForm sc o e with | some l => okEs sc es l | none => false)
  | .tup es, .Tuple l _ _ => okEs sc es l && decide (es.len ≤ 1000)
  | .lst es, .List l _ => okEs sc es l && decide (es.len ≤ 1000)
  | .not a, .UnaryOp .Not e _ => okE sc a e
  | .and a b, .BoolOp .And [x, y] _ => okE sc a x && okE sc b y
  | .and a b, .BoolOp .And (x :: y :: z :: l) p => okE sc a x && okE sc b (.BoolOp .And (y :: z :: l) p)
  | .or a b, .BoolOp .Or [x, y] _ => okE sc a x && okE sc b y
  | .or a b, .BoolOp .Or (x :: y :: z :: l) p => okE sc a x && okE sc b (.BoolOp .Or (y :: z :: l) p)
  | .chain o p a b c, .Compare x [o1, o2] [y, z] _ => decide (cmpOf o = some o1) && decide (cmpOf p = some o2) && !isSet z && !isSet y && okE sc a x && okE sc b y && okE sc c z
  | .lc elt tg it cond own, .ListComp e [⟨t, i, ifs, 0⟩] scope _ => blkC N sc scope own && okT N (relS scope sc) (fun x => scope.names.lookup x == some .cell) tg t && okI sc it i && okEs (relS scope sc) cond ifs && okE (relS scope sc) elt e
      && (slotsT tg).all fun j => decide (j ∈ own.map (·.2))
  | .call f .nil, .Call (.Name x _) [] [] _ => decide (P.names[f]? = some x) && isG sc x
  | .call f es, .Call (.Name x _) (a :: as) [] _ => decide (P.names[f]? = some x) && isG sc x && okEs sc es (a :: as)
  | _, _ => false
def okEs (sc : Scope) : CEs → List Expr → Bool
  | .nil, [] => true
  | .cons c cs, e :: l => okE sc c e && okEs sc cs l
  | _, _ => false
def okI (sc : Scope) : CI → Expr → Bool
  | .seq c, e => okE sc c e
  | .rng1 c, .Call (.Name x _) [a] [] _ => decide (x = "range") && isG sc x && okE sc c a
  | .rng2 c d, .Call (.Name x _) [a, b] [] _ => decide (x = "range") && isG sc x && okE sc c a && okE sc d b
  | _, _ => false
end
/-- whether a comprehension's value is stored within its frame -/
def swB (sc : Scope) : Expr → Str → Pos → Bool
  | .ListComp _ _ s p, t, py => decide (sc.names.lookup t = some .local) && py.line == p.line && !(s.names.any fun (n, k) => n == t && (k == .local || k == .cell))
  | _, _, _ => false

mutual
/-- the slots that a statement stores to -/
def asgd : CS → List Nat
  | .set t _ => slotsT t
  | .setLc i _ => [i]
  | .move i _ => [i]
  | .aug i _ _ => [i]
  | .ite _ a b => asgds a ++ asgds b
  | .for_ t _ b => slotsT t ++ asgds b
  | .while_ _ b => asgds b
  | _ => []
def asgds : CSs → List Nat
  | .nil => []
  | .cons s ss => asgd s ++ asgds ss
end
def lockI : CI → List Nat
  | .seq (.var i) => [i]
  | _ => []
mutual
def okS (sc : Scope) (fb : Str → Bool) : CS → Stmt → Bool
  | .set (.name i) c, .Assign [.Name x py] e _ => isL N sc fb i x && okE P N sc c e && !swB sc e x py
  | .set (.tup ts) c, .Assign [.Tuple l k p] e _ => okT N sc fb (.tup ts) (.Tuple l k p) && okE P N sc c e && (match e with | .Tuple _ _ _ => false | _ => true)
  | .setLc i (.lc elt tg it cond own), .Assign [.Name x py] e _ => decide (N[i]? = some x) && decide (sc.names.lookup x = some .local) && okE P N sc (.lc elt tg it cond own) e && swB sc e x py
  | .move i j, .Assign [.Name x py] (.Name y _) _ => isL N sc fb i x && isV N sc j y && decide (i ≠ j)
  | .aug i o c, .AugAssign (.Name x _) op e _ => isL N sc fb i x && (decide (o = .add) && decide (op = .Add) || decide (o = .sub) && decide (op = .Sub)) && okE P N sc c e
  | .ite c a b, .If e l m _ => okE P N sc c e && okSs sc fb a l && okSs sc fb b m
  | .for_ t it b, .For tg e l [] _ => okT N sc fb t tg && okI P N sc it e && okSs sc fb b l && (lockI it).all fun i => decide (i ∉ slotsT t ++ asgds b)
  | .while_ c b, .While e l [] _ => okE P N sc c e && okSs sc fb b l
  | .ret c, .Return (some e) _ => okE P N sc c e
  | .ret (.cst .none), .Return none _ => true
  | .expr c, .Expr e _ => okE P N sc c e && !isLc e
  | .append i c, .Expr e _ => (match mthd N "append" i sc e with | some x => okE P N sc c x | none => false)
  | .extend i c, .Expr e _ => (match mthd N "extend" i sc e with | some x => okE P N sc c x | none => false)
  | .setItem i k c, .Assign [.Subscript (.Name x _) s _] e _ => isV N sc i x && okE P N sc k s && okE P N sc c e && !isSlice s
  | .pass, .Pass _ => true
  | _, _ => false
def okSs (sc : Scope) (fb : Str → Bool) : CSs → List Stmt → Bool
  | .nil, [] => true
  | .cons s ss, x :: l => okS sc fb s x && okSs sc fb ss l
  | _, _ => false
end
end
end Ev
end

section
set_option Elab.async false
set_option linter.all false
set_option maxRecDepth 100000
namespace Ev
open PySem L2

/-! ### what a def keeps: its promise -/
def spF (G : Errs) (K : PySem.W.Frag) (Ph : Ro → FR) : Sp := fun vs H Q E => ∃ J args fp, Wf K H J (vs.map some) args fp ∧ (match Ph args with
  | .ret s outs => ∀ v H' J' fp' g, Wf K H' J' (vs.map some) outs fp' → RepS K H' J' s v g → (∀ b ∈ g, J' b = none ∧ ¬ Own fp' b) → Step (Own fp) H J (fun b => Own fp' b ∨ b ∈ g) H' J' → Q v H'
  | .ex c fs outs => ∀ H' J' fp' cls d, Wf K H' J' (vs.map some) outs fp' → XRep G K H' J' c fs cls d → Step (Own fp) H J (Own fp') H' J' → E cls d H'
  | .bad => False)

def bnames : List Str := ["len", "max", "min", "list", "tuple", "int", "range", "sorted", "isinstance", "bool", "str", "dict"]

/-- the context is as the text wants it -/
structure Good (P : Prg) (N : List Str) (k : Nat) (Phi : Nat → Ro → FR) (X : Cx) (sc : Scope) (fb : Str → Bool) : Prop where
  hN : X.N = N
  nd : N.Nodup
  hsc : X.env.scope = sc
  kd : sc.kind = .function
  hfb : X.fn = fb
  calm : X.calm = true
  room : Room k X.A
  blt : ∀ x ∈ bnames, X.mg x = none
  fns : ∀ f x, P.tx.names[f]? = some x → ∃ a fd ps, FnOk X.prog X.w X.K X.mg X.base (L2.CX X.prog X.w) k a fd ps (spF P.errs X.K (Phi f)) ∧ X.mg x = some (.ref a) ∧ PySem.W.keepIn X.K (.ref a) = true ∧ Binds X.K fd ps []
  csts : ∀ x d, P.tx.consts.lookup x = some d → ∃ u, X.mg x = some u ∧ match d with | .int j => ∃ t, u = .int j t | .str j => ∃ t, u = .str j t | _ => True

section
variable {P : Prg} {N : List Str} {k : Nat} {Phi : Nat → Ro → FR} {X : Cx} {sc : Scope} {fb : Str → Bool}
theorem Good.blk (g : Good P N k Phi X sc fb) {s : Shared} {H : Hp} {scope : Scope} {cl : List (Str × Addr)} {C : Addr} {fp : List Addr} (hk : scope.kind = .function) :
    Good P N k Phi (X.blk s H scope (compEnvC scope cl C X.env) fp) (relS scope sc) (fun x => scope.names.lookup x == some .cell) where
  hN := g.hN
  nd := g.nd
  hsc := by rw [← g.hsc]; rfl
  kd := hk
  hfb := rfl
  calm := g.calm
  room := g.room
  blt := g.blt
  fns := g.fns
  csts := g.csts
theorem isV_ok (g : Good P N k Phi X sc fb) {i : Nat} {x : Str} {pos : Pos} (h : isV N sc i x = true) : PE X (.Name x pos) (tVar i) := by
  unfold isV at h
  simp only [Bool.and_eq_true, decide_eq_true_eq, Bool.not_eq_true'] at h
  obtain ⟨⟨⟨h1, h2⟩, h3⟩, h4⟩ := h
  refine pe_var (by rw [g.hN]; exact h1) ?_ h3 h4
  rw [g.hsc]
  unfold Vis
  split at h2 <;> first | (rename_i e; rw [e]; simp) | cases h2
theorem isG_ok (g : Good P N k Phi X sc fb) {x : Str} (h : isG sc x = true) : Gl X x ∧ (x == ("__debug__" : Str)) = false := by
  unfold isG at h
  simp only [Bool.and_eq_true, Bool.not_eq_true'] at h
  refine ⟨?_, h.2⟩
  have h1 := h.1
  split at h1
  · rename_i e
    show X.env.scope.names.lookup x = some .globalImplicit
    rw [g.hsc]; exact e
  · cases h1
theorem isL_ok (g : Good P N k Phi X sc fb) {i : Nat} {x : Str} {pos : Pos} (h : isL N sc fb i x = true) : X.N[i]? = some x ∧ Loc X.env.scope x ∧ (X.fn x = true ∨ X.env.scope.names.lookup x = some .local) := by
  unfold isL at h
  simp only [Bool.and_eq_true, decide_eq_true_eq] at h
  obtain ⟨h1, h2⟩ := h
  refine ⟨by rw [g.hN]; exact h1, ?_⟩
  rw [g.hsc, g.hfb]
  unfold L2.Loc
  split at h2
  · rename_i e; rw [e]; simp
  · rename_i e; rw [e]; simp; exact h2
  · cases h2
theorem star_ok {e : Expr} {es : List Expr} {env : Env} (h : isStar e = false) : starEach (e :: es) env = (false, eval e env) :: starEach es env := by
  cases e <;> first | rfl | (simp [isStar] at h)
theorem okE_star {c : CE} {e : Expr} (h : okE P.tx N sc c e = true) : isStar e = false := by
  cases e <;> first | rfl | (cases c <;> simp [okE, opForm, mthd, badE] at h)
theorem okEs_star : ∀ {cs : CEs} {es : List Expr}, okEs P.tx N sc cs es = true → ∀ e ∈ es, isStar e = false
  | .nil, [], _, e, q => nomatch q
  | .nil, _ :: _, h, _, _ => by simp [okEs] at h
  | .cons _ _, [], h, _, _ => by simp [okEs] at h
  | .cons c cs, e :: es, h, x, q => by
    simp only [okEs, Bool.and_eq_true] at h
    rcases List.mem_cons.mp q with z | z
    · rw [z]; exact okE_star h.1
    · exact okEs_star h.2 x z
theorem plain_ok {pos : Pos} {env : Env} : ∀ {es : List Expr}, (∀ e ∈ es, isStar e = false) → (backTo pos (starEach es env)).any (·.1) = false
  | [], _ => rfl
  | e :: es, h => by
    rw [star_ok (h e (List.mem_cons_self ..))]
    have ih := plain_ok (pos := pos) (env := env) (es := es) fun x q => h x (List.mem_cons_of_mem _ q)
    unfold backTo at ih ⊢
    rw [List.map_cons, List.any_cons, ih]
    rfl
theorem okEs_len : ∀ {cs : CEs} {es : List Expr}, okEs P.tx N sc cs es = true → es.length = cs.len
  | .nil, [], _ => rfl
  | .nil, _ :: _, h => by simp [okEs] at h
  | .cons _ _, [], h => by simp [okEs] at h
  | .cons c cs, e :: es, h => by
    simp only [okEs, Bool.and_eq_true] at h
    rw [List.length_cons, okEs_len h.2, CEs.len]
theorem many_len {f1 : CE → Ro → R (PyData × Lk)} : ∀ {cs : CEs} {r : Ro} {x : List (PyData × Lk)} {r1 : Ro}, many f1 cs r = .ok x r1 → x.length = cs.len
  | .nil, r, x, r1, h => by simp only [many] at h; cases h; rfl
  | .cons c cs, r, x, r1, h => by
    simp only [many] at h
    cases e : f1 c r with
    | bad => rw [e] at h; cases h
    | ex _ _ _ => rw [e] at h; cases h
    | ok a q =>
      rw [e] at h
      simp only [R.bind] at h
      cases e2 : many f1 cs q with
      | bad => rw [e2] at h; cases h
      | ex _ _ _ => rw [e2] at h; cases h
      | ok b q2 =>
        rw [e2] at h
        cases h
        rw [List.length_cons, many_len e2, CEs.len]
end

section
variable {G : Errs} {K : PySem.W.Frag} {W : WX} {sg : St} {H J H1 J1 : Hp} {fp fp1 : Nat → List Addr} {Phi : Nat → Ro → FR}
theorem Opds.len : ∀ {x : List (PyData × Lk)} {vs : List V} {gs : List Addr}, Opds K H J fp sg x vs gs → vs.length = x.length
  | _, _, _, .nil => rfl
  | _, _, _, .cons _ _ k => by rw [List.length_cons, List.length_cons, k.len]
theorem Opds.views : ∀ {x : List (PyData × Lk)} {vs : List V} {gs : List Addr}, Opds K H J fp sg x vs gs → Vws K H J vs (x.map (·.1))
  | _, _, _, .nil => .nil
  | _, _, _, .cons h _ k => .cons h.view k.views
theorem it1_none {cs : CEs} : ∀ {r : Ro} {x : List (PyData × Lk)} {r1 : Ro}, many (it1 Phi) cs r = .ok x r1 → ∀ p ∈ x, p.2 = none := by
  intro r x r1 h
  induction cs using CEs.rec (motive_1 := fun _ => True) (motive_3 := fun _ => True) (motive_4 := fun _ => True) (motive_5 := fun _ => True) generalizing r x r1 with
  | nil => simp only [many] at h; cases h; exact fun p q => nomatch q
  | cons c cs _ ih =>
    simp only [many, it1, R.bind_bind] at h
    cases e : (ev Phi c r).sh with
    | bad => rw [e] at h; cases h
    | ex _ _ _ => rw [e] at h; cases h
    | ok a q =>
      rw [e] at h
      simp only [R.bind] at h
      cases e2 : many (it1 Phi) cs q with
      | bad => rw [e2] at h; cases h
      | ex _ _ _ => rw [e2] at h; cases h
      | ok b q2 =>
        rw [e2] at h
        cases h
        intro p hp
        rcases List.mem_cons.mp hp with z | z
        · rw [z]
        · exact ih e2 p z
  | _ => trivial
theorem Opds.shared : ∀ {x : List (PyData × Lk)} {vs : List V} {gs : List Addr}, Opds K H J fp sg x vs gs → (∀ p ∈ x, p.2 = none) → gs = [] ∧ ShAll K J vs (x.map (·.1))
  | _, _, _, .nil, _ => ⟨rfl, .nil⟩
  | _, _, _, .cons (l := l) h _ k, n => by
    have e : l = none := n _ (List.mem_cons_self ..)
    subst e
    obtain ⟨e1, e2⟩ := k.shared fun p q => n p (List.mem_cons_of_mem _ q)
    obtain ⟨h1, h2⟩ := h
    rw [e1, h1]
    exact ⟨rfl, .cons h2 e2⟩
/-- an operation behind its operands -/
theorem op_readR {o : Op} {es : CEs} {Q : V → Hp → Prop} {RR : List V → Hp → Prop} (h : tEv G K W Phi (.op o es) sg H Q) (hR : ∀ vs H2, rPrim K o vs H2 Q → RR vs H2) : seqOpd G K W (rd1 Phi) es sg H RR := by
  obtain ⟨J, r, fp, w, f⟩ := h
  refine seqOpd_of es w ?_
  simp only [ev, rds_many] at f
  cases e : many (rd1 Phi) es r with
  | bad => rw [e] at f; exact f
  | ex c fs r1 => rw [e] at f; exact f
  | ok x r1 =>
    rw [e] at f
    simp only [R.bind] at f
    intro vs H1 J1 fp1 gs w1 o1 t1
    cases ep : prim o (x.map (·.1)) with
    | none => rw [ep] at f; exact f.elim
    | some s =>
      rw [ep] at f
      obtain ⟨fp2, w2, own2⟩ := o1.unlock w1
      refine hR _ _ ⟨J1, _, s, w1.same, o1.views, ep, fun v H2 J2 g q n st sm => ?_⟩
      refine f v H2 J2 fp2 g (w2.step st sm fun a _ z => z) q (fun b z => ⟨(n b z).1, fun y => ?_⟩) (t1.trans ?_)
      · obtain ⟨j, y⟩ := y
        obtain ⟨_, o, ho⟩ := w2.jn j b y
        rw [(n b z).2] at ho
        cases ho
      · refine ⟨st.js, fun b o q _ => st.fr b o q id, fun b q => ?_, fun b q => (st.jg b q).imp id fun z => z.imp False.elim id⟩
        rcases q with q | q
        · exact .inl (own2 b q)
        · exact (st.fn b q).imp False.elim id
theorem op_read {o : Op} {es : CEs} {Q : V → Hp → Prop} (h : tEv G K W Phi (.op o es) sg H Q) : seqOpd G K W (rd1 Phi) es sg H fun vs H2 => rPrim K o vs H2 Q := op_readR h fun _ _ q => q
end
end Ev
end

section
set_option Elab.async false
set_option linter.all false
set_option maxRecDepth 100000
namespace Ev
open PySem L2

/-! ### targets -/
mutual
def tT (K : PySem.W.Frag) : CT → TG
  | .name i => gName i
  | .tup ts => gTup K ts.len (tTs K ts)
def tTs (K : PySem.W.Frag) : CTs → TGs
  | .nil => gNil
  | .cons t ts => gCons (tT K t) (tTs K ts)
end
section
variable {P : Prg} {N : List Str} {k : Nat} {Phi : Nat → Ro → FR} {X : Cx} {sc : Scope} {fb : Str → Bool}
theorem okTs_len : ∀ {ts : CTs} {l : List Expr}, okTs N sc fb ts l = true → l.length = ts.len
  | .nil, [], _ => rfl
  | .nil, _ :: _, h => by simp [okTs] at h
  | .cons _ _, [], h => by simp [okTs] at h
  | .cons t ts, e :: l, h => by
    simp only [okTs, Bool.and_eq_true] at h
    rw [List.length_cons, okTs_len h.2, CTs.len]
theorem okT_star {t : CT} {e : Expr} (h : okT N sc fb t e = true) : isStar e = false := by
  cases e <;> first | rfl | (cases t <;> simp [okT] at h)
theorem asgE_ok {e : Expr} {l : List Expr} {env : Env} (h : isStar e = false) : assignEach (e :: l) env = (false, assign e env) :: assignEach l env := by
  cases e <;> first | rfl | (simp [isStar] at h)
theorem okTs_stars : ∀ {ts : CTs} {l : List Expr} {env : Env}, okTs N sc fb ts l = true → (assignEach l env).length = ts.len ∧ (assignEach l env).findIdx? (·.1) = none
  | .nil, [], _, _ => ⟨rfl, rfl⟩
  | .nil, _ :: _, _, h => by simp [okTs] at h
  | .cons _ _, [], _, h => by simp [okTs] at h
  | .cons t ts, e :: l, env, h => by
    simp only [okTs, Bool.and_eq_true] at h
    obtain ⟨a, b⟩ := okTs_stars (env := env) h.2
    rw [asgE_ok (okT_star h.1)]
    refine ⟨by rw [List.length_cons, a, CTs.len], ?_⟩
    rw [List.findIdx?_cons]
    simp [b]
mutual
theorem soundT : ∀ {t : CT} {e : Expr}, Good P N k Phi X sc fb → okT N sc fb t e = true → PG X e (tT X.K t)
  | .name i, .Name x p, g, h => by
    simp only [okT] at h
    obtain ⟨h1, h2, h3⟩ := isL_ok (pos := p) g h
    exact pg_name (by rw [g.hN]; exact g.nd) h1 h2 h3
  | .tup ts, .Tuple l kk p, g, h => by
    simp only [okT] at h
    have q := soundTs g h
    obtain ⟨a, b⟩ := okTs_stars (env := X.env) h
    exact pg_tup g.calm q a b
theorem soundTs : ∀ {ts : CTs} {l : List Expr}, Good P N k Phi X sc fb → okTs N sc fb ts l = true → PGs X l (tTs X.K ts)
  | .nil, [], g, h => pgs_nil
  | .cons t ts, e :: l, g, h => by
    simp only [okTs, Bool.and_eq_true] at h
    exact pgs_cons (soundT g h.1) (soundTs g h.2) (by rw [asgE_ok (okT_star h.1)]; rfl)
end
end

/-- the slots outside of some are the same -/
def Agree (vs : List Nat) (sg sg' : St) : Prop := sg'.length = sg.length ∧ ∀ i, i ∉ vs → sg'[i]? = sg[i]?
theorem Agree.refl {vs : List Nat} {sg : St} : Agree vs sg sg := ⟨rfl, fun _ _ => rfl⟩
theorem Agree.trans {vs : List Nat} {a b c : St} (h : Agree vs a b) (k : Agree vs b c) : Agree vs a c := ⟨k.1.trans h.1, fun i n => (k.2 i n).trans (h.2 i n)⟩
theorem Agree.mono {vs ws : List Nat} {a b : St} (h : Agree vs a b) (m : ∀ i ∈ vs, i ∈ ws) : Agree ws a b := ⟨h.1, fun i n => h.2 i fun q => n (m i q)⟩
theorem Agree.set {vs : List Nat} {sg : St} {i : Nat} {o : Option V} (h : i ∈ vs) : Agree vs sg (sg.set i o) := ⟨List.length_set, fun j n => List.getElem?_set_ne fun e => n (by rw [← e]; exact h)⟩
section
variable {K : PySem.W.Frag} {H J : Hp}
theorem Wf.putSh {sg : St} {r : Ro} {fp : Nat → List Addr} {i : Nat} {v : V} {d : PyData} (w : Wf K H J sg r fp) (hi : i < r.length) (h : Sh K J v d) : Wf K H J (sg.set i (some v)) (r.set i (.sh d)) (fpSet fp i []) :=
  w.put (g := []) hi ⟨rfl, h⟩ fun b q => nomatch q
mutual
theorem asg_ok : ∀ {t : CT} {d : PyData} {v : V} {sg : St} {r r' : Ro} {fp : Nat → List Addr} {Q : St → Hp → Prop}, asg t d r = some r' → Wf K H J sg r fp → Sh K J v d →
    (∀ sg' fp', Wf K H J sg' r' fp' → (∀ b, Own fp' b → Own fp b) → Agree (slotsT t) sg sg' → Q sg' H) → tT K t v sg H Q
  | .name i, d, v, sg, r, r', fp, Q, e, w, h, q => by
    simp only [asg, asgN] at e
    split at e
    · rename_i hi
      cases e
      exact q _ _ (w.putSh (of_decide_eq_true hi) h) (fun b z => own_wipe z) (.set (by simp [slotsT]))
    · cases e
  | .tup ts, .tuple ds, v, sg, r, r', fp, Q, e, w, h, q => by
    simp only [asg] at e
    cases h with
    | tup h1 h2 =>
      rename_i a xs
      refine ⟨a, xs, rfl, .of (w.same _ _ h1), ?_, asgs_ok e w h2 fun sg' fp' w' o' a' => q sg' fp' w' o' (by simpa only [slotsT] using a')⟩
      rw [shsLen h2]
      exact asgs_len e
  | .tup ts, .none, _, _, _, _, _, _, e, _, _, _ => by simp [asg] at e
  | .tup ts, .bool _, _, _, _, _, _, _, e, _, _, _ => by simp [asg] at e
  | .tup ts, .int _, _, _, _, _, _, _, e, _, _, _ => by simp [asg] at e
  | .tup ts, .str _, _, _, _, _, _, _, e, _, _, _ => by simp [asg] at e
  | .tup ts, .list _, _, _, _, _, _, _, e, _, _, _ => by simp [asg] at e
  | .tup ts, .dict _, _, _, _, _, _, _, e, _, _, _ => by simp [asg] at e
theorem asgs_ok : ∀ {ts : CTs} {ds : List PyData} {vs : List V} {sg : St} {r r' : Ro} {fp : Nat → List Addr} {Q : St → Hp → Prop}, asgs ts ds r = some r' → Wf K H J sg r fp → ShAll K J vs ds →
    (∀ sg' fp', Wf K H J sg' r' fp' → (∀ b, Own fp' b → Own fp b) → Agree (slotsTs ts) sg sg' → Q sg' H) → tTs K ts vs sg H Q
  | .nil, [], vs, sg, r, r', fp, Q, e, w, h, q => by
    simp only [asgs] at e
    cases e
    cases h
    exact ⟨rfl, q _ _ w (fun _ z => z) .refl⟩
  | .nil, _ :: _, _, _, _, _, _, _, e, _, _, _ => by simp [asgs] at e
  | .cons t ts, [], _, _, _, _, _, _, e, _, _, _ => by simp [asgs] at e
  | .cons t ts, d :: ds, vs, sg, r, r', fp, Q, e, w, h, q => by
    simp only [asgs] at e
    cases h with
    | cons h1 h2 =>
      rename_i v vs
      cases e1 : asg t d r with
      | none => rw [e1] at e; cases e
      | some r1 =>
        rw [e1] at e
        refine ⟨v, vs, rfl, asg_ok e1 w h1 fun sg1 fp1 w1 o1 a1 => asgs_ok e w1 h2 fun sg2 fp2 w2 o2 a2 => q sg2 fp2 w2 (fun b z => o1 b (o2 b z)) ?_⟩
        simp only [slotsTs]
        exact (a1.mono fun i z => List.mem_append.mpr (.inl z)).trans (a2.mono fun i z => List.mem_append.mpr (.inr z))
theorem asgs_len : ∀ {ts : CTs} {ds : List PyData} {r r' : Ro}, asgs ts ds r = some r' → ds.length = ts.len
  | .nil, [], _, _, _ => rfl
  | .nil, _ :: _, _, _, e => by simp [asgs] at e
  | .cons t ts, [], _, _, e => by simp [asgs] at e
  | .cons t ts, d :: ds, r, r', e => by
    simp only [asgs] at e
    cases e1 : asg t d r with
    | none => rw [e1] at e; cases e
    | some r1 =>
      rw [e1] at e
      rw [List.length_cons, asgs_len e, CTs.len]
end
end
end Ev
end

section
set_option Elab.async false
set_option linter.all false
set_option maxRecDepth 100000
namespace Ev
open PySem L2

/-! ### a block's own slots -/
theorem wipeR_len (r : Ro) : ∀ vs : List Nat, (wipeR r vs).length = r.length
  | [] => rfl
  | v :: vs => by unfold wipeR; rw [List.length_set, wipeR_len r vs]
theorem wipeR_in {r : Ro} {j : Nat} : ∀ {vs : List Nat}, j ∈ vs → (wipeR r vs)[j]? = none ∨ (wipeR r vs)[j]? = some .non
  | [], h => nomatch h
  | v :: vs, h => by
    unfold wipeR
    by_cases e : v = j
    · subst e
      by_cases hl : v < (wipeR r vs).length
      · rw [List.getElem?_set_self hl]; exact .inr rfl
      · exact .inl (List.getElem?_eq_none (by simpa using hl))
    · rw [List.getElem?_set_ne e]
      exact wipeR_in ((List.mem_cons.mp h).elim (fun z => absurd z.symm e) id)
theorem wipeR_out {r : Ro} {j : Nat} : ∀ {vs : List Nat}, j ∉ vs → (wipeR r vs)[j]? = r[j]?
  | [], _ => rfl
  | v :: vs, h => by
    unfold wipeR
    rw [List.getElem?_set_ne fun e => h (by rw [e]; exact List.mem_cons_self ..)]
    exact wipeR_out fun z => h (List.mem_cons_of_mem _ z)
theorem wipe_out' {sg : St} {j : Nat} {vs : List Nat} (h : j ∉ vs) : (wipe sg vs)[j]? = sg[j]? := wipe_out h
theorem wipe_in {sg : St} {j : Nat} : ∀ {vs : List Nat}, j ∈ vs → (wipe sg vs)[j]? = none ∨ (wipe sg vs)[j]? = some none
  | [], h => nomatch h
  | v :: vs, h => by
    unfold wipe
    by_cases e : v = j
    · subst e
      by_cases hl : v < (wipe sg vs).length
      · rw [List.getElem?_set_self hl]; exact .inr rfl
      · exact .inl (List.getElem?_eq_none (by simpa using hl))
    · rw [List.getElem?_set_ne e]
      exact wipe_in ((List.mem_cons.mp h).elim (fun z => absurd z.symm e) id)
theorem agree_wipe {sg sg' : St} {vs : List Nat} (h : Agree vs (wipe sg vs) sg') : wipe sg' vs = wipe sg vs := by
  apply List.ext_getElem?
  intro j
  by_cases hj : j ∈ vs
  · have l1 : (wipe sg' vs).length = (wipe sg vs).length := by rw [wipe_length, h.1]
    rcases wipe_in (sg := sg') hj with a | a <;> rcases wipe_in (sg := sg) hj with b | b
    · rw [a, b]
    · rw [List.getElem?_eq_none_iff] at a
      have := (List.getElem?_eq_some_iff.mp b).1
      omega
    · rw [List.getElem?_eq_none_iff] at b
      have := (List.getElem?_eq_some_iff.mp a).1
      omega
    · rw [a, b]
  · rw [wipe_out hj, h.2 j hj]
theorem backR_len (r0 r : Ro) : ∀ vs : List Nat, (backR r0 r vs).length = r.length
  | [] => rfl
  | v :: vs => by
    unfold backR
    split
    · rw [List.length_set, backR_len r0 r vs]
    · exact backR_len r0 r vs
theorem backR_out {r0 r : Ro} {j : Nat} : ∀ {vs : List Nat}, j ∉ vs → (backR r0 r vs)[j]? = r[j]?
  | [], _ => rfl
  | v :: vs, h => by
    have ih := backR_out (r0 := r0) (r := r) (j := j) (vs := vs) fun z => h (List.mem_cons_of_mem _ z)
    unfold backR
    split
    · rw [List.getElem?_set_ne fun e => h (by rw [e]; exact List.mem_cons_self ..)]; exact ih
    · exact ih
theorem backR_in {r0 r : Ro} {j : Nat} (hl : r0.length = r.length) : ∀ {vs : List Nat}, j ∈ vs → (backR r0 r vs)[j]? = r0[j]?
  | [], h => nomatch h
  | v :: vs, h => by
    have lb := backR_len r0 r vs
    unfold backR
    by_cases e : v = j
    · subst e
      split
      · rename_i s hs
        have := (List.getElem?_eq_some_iff.mp hs).1
        rw [List.getElem?_set_self (by omega), hs]
      · rename_i hs
        rw [hs, List.getElem?_eq_none_iff, lb, ← hl]
        exact List.getElem?_eq_none_iff.mp hs
    · have ih := backR_in (r0 := r0) (r := r) (j := j) hl (vs := vs) ((List.mem_cons.mp h).elim (fun z => absurd z.symm e) id)
      split
      · rw [List.getElem?_set_ne e]; exact ih
      · exact ih

section
variable {K : PySem.W.Frag} {H J H1 J1 : Hp} {sg sg1 : St} {r r1 : Ro} {fp fp1 : Nat → List Addr}
def fpW (fp : Nat → List Addr) (vs : List Nat) : Nat → List Addr := fun j => if j ∈ vs then [] else fp j
theorem fpW_in {vs : List Nat} {j : Nat} (h : j ∈ vs) : fpW fp vs j = [] := by unfold fpW; rw [if_pos h]
theorem fpW_out {vs : List Nat} {j : Nat} (h : j ∉ vs) : fpW fp vs j = fp j := by unfold fpW; rw [if_neg h]
theorem fpW_own {vs : List Nat} {b : Addr} (h : Own (fpW fp vs) b) : Own fp b := by
  obtain ⟨j, q⟩ := h
  by_cases hj : j ∈ vs
  · rw [fpW_in hj] at q; cases q
  · rw [fpW_out hj] at q; exact ⟨j, q⟩
theorem Wf.wipe (w : Wf K H J sg r fp) (vs : List Nat) : Wf K H J (L2.wipe sg vs) (wipeR r vs) (fpW fp vs) where
  same := w.same
  len := by rw [wipe_length, wipeR_len]; exact w.len
  rep := fun j s e ne => by
    by_cases hj : j ∈ vs
    · rcases wipeR_in (r := r) hj with z | z
      · rw [z] at e; cases e
      · rw [z] at e; cases e; exact absurd rfl ne
    · rw [wipeR_out hj] at e
      rw [wipe_out hj, fpW_out hj]
      exact w.rep j s e ne
  emp := fun j e => by
    by_cases hj : j ∈ vs
    · exact fpW_in hj
    · rw [wipeR_out hj] at e
      rw [fpW_out hj]
      exact w.emp j e
  dis := fun i j a h1 h2 => by
    by_cases hi : i ∈ vs
    · rw [fpW_in hi] at h1; cases h1
    · by_cases hj : j ∈ vs
      · rw [fpW_in hj] at h2; cases h2
      · rw [fpW_out hi] at h1; rw [fpW_out hj] at h2; exact w.dis i j a h1 h2
  jn := fun j a h1 => by
    by_cases hj : j ∈ vs
    · rw [fpW_in hj] at h1; cases h1
    · rw [fpW_out hj] at h1; exact w.jn j a h1
def fpB (fp fp1 : Nat → List Addr) (vs : List Nat) : Nat → List Addr := fun j => if j ∈ vs then fp j else fp1 j
theorem fpB_in {vs : List Nat} {j : Nat} (h : j ∈ vs) : fpB fp fp1 vs j = fp j := by unfold fpB; rw [if_pos h]
theorem fpB_out {vs : List Nat} {j : Nat} (h : j ∉ vs) : fpB fp fp1 vs j = fp1 j := by unfold fpB; rw [if_neg h]
/-- the block's slots are brought back -/
theorem Wf.back (w : Wf K H J sg r fp) {vs : List Nat} (w1 : Wf K H1 J1 sg1 r1 fp1) (ag : Agree vs (L2.wipe sg vs) sg1) {F : Addr → Prop} (t : Step (Own (fpW fp vs)) H J F H1 J1) (hF : ∀ b, Own fp1 b → F b) :
    Wf K H1 J1 sg (backR r r1 vs) (fpB fp fp1 vs) ∧ ∀ b, Own (fpB fp fp1 vs) b → F b ∨ Own fp b := by
  have hl : r.length = r1.length := by rw [← w.len, ← w1.len, ag.1, wipe_length]
  have apart : ∀ i b, i ∈ vs → b ∈ fp i → ¬ Own (fpW fp vs) b := fun i b hi hb ⟨j, q⟩ => by
    by_cases hj : j ∈ vs
    · rw [fpW_in hj] at q; cases q
    · rw [fpW_out hj] at q
      have := w.dis i j b hb q
      rw [this] at hi
      exact hj hi
  have offF : ∀ i b, i ∈ vs → b ∈ fp i → J1 b = none ∧ ¬ F b := fun i b hi hb => t.off (w.jn i b hb).1 (apart i b hi hb) (w.jn i b hb).2
  refine ⟨⟨w1.same, ?_, fun j s e ne => ?_, fun j e => ?_, fun i j b h1 h2 => ?_, fun j b h1 => ?_⟩, fun b ⟨j, q⟩ => ?_⟩
  · rw [backR_len, ← hl]; exact w.len
  · by_cases hj : j ∈ vs
    · rw [backR_in hl hj] at e
      rw [fpB_in hj]
      obtain ⟨v, hv, q⟩ := w.rep j s e ne
      exact ⟨v, hv, q.step t fun b hb => apart j b hj hb⟩
    · rw [backR_out hj] at e
      rw [fpB_out hj]
      obtain ⟨v, hv, q⟩ := w1.rep j s e ne
      rw [ag.2 j hj, wipe_out hj] at hv
      exact ⟨v, hv, q⟩
  · by_cases hj : j ∈ vs
    · rw [backR_in hl hj] at e
      rw [fpB_in hj]
      exact w.emp j e
    · rw [backR_out hj] at e
      rw [fpB_out hj]
      exact w1.emp j e
  · by_cases hi : i ∈ vs
    · by_cases hj : j ∈ vs
      · rw [fpB_in hi] at h1; rw [fpB_in hj] at h2; exact w.dis i j b h1 h2
      · rw [fpB_in hi] at h1; rw [fpB_out hj] at h2; exact absurd (hF b ⟨j, h2⟩) (offF i b hi h1).2
    · by_cases hj : j ∈ vs
      · rw [fpB_out hi] at h1; rw [fpB_in hj] at h2; exact absurd (hF b ⟨i, h1⟩) (offF j b hj h2).2
      · rw [fpB_out hi] at h1; rw [fpB_out hj] at h2; exact w1.dis i j b h1 h2
  · by_cases hj : j ∈ vs
    · rw [fpB_in hj] at h1
      obtain ⟨o, ho⟩ := (w.jn j b h1).2
      exact ⟨(offF j b hj h1).1, o, t.fr b o ho (apart j b hj h1)⟩
    · rw [fpB_out hj] at h1; exact w1.jn j b h1
  · by_cases hj : j ∈ vs
    · rw [fpB_in hj] at q; exact .inr ⟨j, q⟩
    · rw [fpB_out hj] at q; exact .inl (hF b ⟨j, q⟩)
end

/-! ### what a loop walks -/
structure Walks (K : PySem.W.Frag) (T : It) (items : List PyData) (S : Hp → Hp → Prop) : Prop where
  go : ∀ i H J, Same J H → S H J → i < items.length → T.go i H
  stop : ∀ i H J, Same J H → S H J → items.length ≤ i → T.stop i H
  yld : ∀ i H J v H', Same J H → S H J → i < items.length → T.yld i H v H' → ∃ J' d, items[i]? = some d ∧ Sh K J' v d ∧ Same J' H' ∧ S H' J' ∧ Step (fun _ => False) H J (fun _ => False) H' J'

section
variable {K : PySem.W.Frag}
theorem walks_list {a : Addr} {xs : List V} {ds : List PyData} {S : Hp → Hp → Prop} (hS : ∀ H J, Same J H → S H J → SqL K H a xs ∧ ShAll K J xs ds) : Walks K (Itl K a) ds S where
  go := fun i H J sm s h => by
    obtain ⟨h1, h2⟩ := hS H J sm s
    have : i < xs.length := by rw [shsLen h2]; exact h
    exact ⟨xs, xs[i], h1, by simp [this]⟩
  stop := fun i H J sm s h => by
    obtain ⟨h1, h2⟩ := hS H J sm s
    exact ⟨xs, h1, by rw [shsLen h2]; exact h⟩
  yld := fun i H J v H' sm s h y => by
    obtain ⟨e, y⟩ := y
    subst e
    obtain ⟨h1, h2⟩ := hS _ J sm s
    obtain ⟨d, hd, q⟩ := shsGetV h2 (y xs h1)
    exact ⟨J, d, hd, q, sm, s, Step.refl⟩
theorem walks_tup {a : Addr} {xs : List V} {ds : List PyData} {S : Hp → Hp → Prop} (hS : ∀ H J, Same J H → S H J → SqT K H a xs ∧ ShAll K J xs ds) : Walks K (Itt K a) ds S where
  go := fun i H J sm s h => by
    obtain ⟨h1, h2⟩ := hS H J sm s
    have : i < xs.length := by rw [shsLen h2]; exact h
    exact ⟨xs, xs[i], h1, by simp [this]⟩
  stop := fun i H J sm s h => by
    obtain ⟨h1, h2⟩ := hS H J sm s
    exact ⟨xs, h1, by rw [shsLen h2]; exact h⟩
  yld := fun i H J v H' sm s h y => by
    obtain ⟨e, y⟩ := y
    subst e
    obtain ⟨h1, h2⟩ := hS _ J sm s
    obtain ⟨d, hd, q⟩ := shsGetV h2 (y xs h1)
    exact ⟨J, d, hd, q, sm, s, Step.refl⟩
theorem rngL_len (lo : Int) (n : Nat) : (rngL lo n).length = n := by simp [rngL]
theorem rngL_get (lo : Int) (n i : Nat) (h : i < n) : (rngL lo n)[i]? = some (.int (lo + (i : Int))) := by simp [rngL, h]
theorem walks_rng {lo : Int} {n : Nat} : Walks K (Itr lo n) (rngL lo n) (fun _ _ => True) where
  go := fun i H J sm s h => by rw [rngL_len] at h; exact h
  stop := fun i H J sm s h => by rw [rngL_len] at h; exact h
  yld := fun i H J v H' sm s h y => by
    obtain ⟨e, y⟩ := y
    subst e y
    rw [rngL_len] at h
    exact ⟨J, _, rngL_get lo n i h, .int _, sm, trivial, Step.refl⟩
end

section
variable (G : Errs) (K : PySem.W.Frag) (W : WX) (Phi : Nat → Ro → FR)
/-- what stands while a loop walks it: apart from g everything may change -/
def Keeps (g : List Addr) (S : Hp → Hp → Prop) : Prop := ∀ F F' H J H' J', S H J → Step F H J F' H' J' → (∀ b ∈ g, ¬ F b) → S H' J'
def FinI (sg : St) (H J : Hp) (fp : Nat → List Addr) (x : R (List PyData × List Lk)) (Q : It → Hp → Prop) : Prop := match x with
  | .ok a r' => ∀ T S H' J' fp' g y vs, Wf K H' J' sg r' fp' → Walks K T a.1 S → S H' J' → Keeps g S → Opds K H' J' fp' sg y vs g → y.map (·.2) = a.2 → a.1.length ≤ sizeLine → Step (Own fp) H J (fun b => Own fp' b ∨ b ∈ g) H' J' → Q T H'
  | .ex c fs r' => ∀ H' J' fp' cls d, Wf K H' J' sg r' fp' → XRep G K H' J' c fs cls d → Step (Own fp) H J (Own fp') H' J' → W cls d sg H'
  | .bad => False
def tI (it : CI) : TI := fun sg H Q => ∃ J r fp, Wf K H J sg r fp ∧ FinI G K W sg H J fp (evI Phi it r) Q
end
end Ev
end

section
set_option Elab.async false
set_option linter.all false
set_option maxRecDepth 100000
set_option maxHeartbeats 4000000
namespace Ev
open PySem L2

section
variable (G : Errs) (K : PySem.W.Frag) (W : WX) (Phi : Nat → Ro → FR)
/-- how a test may end -/
def FinB (sg : St) (H J : Hp) (fp : Nat → List Addr) (x : R Bool) (Q : Bool → Hp → Prop) : Prop := match x with
  | .ok b r' => ∀ H' J' fp', Wf K H' J' sg r' fp' → Step (Own fp) H J (Own fp') H' J' → Q b H'
  | .ex c fs r' => ∀ H' J' fp' cls d, Wf K H' J' sg r' fp' → XRep G K H' J' c fs cls d → Step (Own fp) H J (Own fp') H' J' → W cls d sg H'
  | .bad => False
def tTr (c : CE) : TT := fun sg H Q => ∃ J r fp, Wf K H J sg r fp ∧ FinB G K W sg H J fp (ev Phi c r).truth Q
def tCs (c : CEs) : TT := fun sg H Q => ∃ J r fp, Wf K H J sg r fp ∧ FinB G K W sg H J fp (evC Phi c r) Q
end

section
variable {G : Errs} {K : PySem.W.Frag} {W : WX} {sg : St} {H J H1 J1 : Hp} {fp fp1 : Nat → List Addr} {Phi : Nat → Ro → FR}
theorem Opd.stepG {d : PyData} {l : Lk} {v : V} {g : List Addr} {F F' : Addr → Prop} (h : Opd K H J fp sg d l v g) (t : Step F H J F' H1 J1) (hF : ∀ b ∈ g, ¬ F b) (hF' : ∀ b, Own fp1 b → F' b) : Opd K H1 J1 fp1 sg d l v g := by
  have off := h.off
  cases l with
  | none => exact ⟨h.1, shMono t.js h.2⟩
  | some p =>
    obtain ⟨i, s⟩ := p
    obtain ⟨h1, h2, h3, h4⟩ := h
    refine ⟨h1, h2.step t hF, h3, fun b q => ?_⟩
    have z := t.off (off b q).1 (hF b q) (off b q).2.2
    exact ⟨z.1, fun y => z.2 (hF' b y)⟩
theorem Opds.stepG {F F' : Addr → Prop} (t : Step F H J F' H1 J1) (hF' : ∀ b, Own fp1 b → F' b) : ∀ {x : List (PyData × Lk)} {vs : List V} {gs : List Addr}, Opds K H J fp sg x vs gs → (∀ b ∈ gs, ¬ F b) → Opds K H1 J1 fp1 sg x vs gs
  | _, _, _, .nil, _ => .nil
  | _, _, _, .cons h n k, hF => .cons (h.stepG t (fun b q => hF b (List.mem_append.mpr (.inl q))) hF') n (k.stepG t hF' fun b q => hF b (List.mem_append.mpr (.inr q)))
theorem step_upd {D : Addr} {o : HO} : Step (fun b => b = D) H J (fun b => b = D) (upd H D o) J where
  js := Same.refl _
  fr := fun b u e n => by rw [upd_ne n]; exact e
  fn := fun _ h => .inl h
  jg := fun _ h => .inl h
theorem same_updN {D : Addr} {o : HO} (sm : Same J H) (hD : J D = none) : Same J (upd H D o) := fun b u e => by
  rw [upd_ne (ne_of_none e hD)]
  exact sm b u e
theorem comp_noex (step : PyData → Ro → R (Option PyData)) : ∀ (ds acc : List PyData) (r : Ro) (c : Nat) (fs : List PyData) (r' : Ro), comp step ds acc r ≠ .ex c fs r'
  | [], acc, r, c, fs, r', h => by simp only [comp] at h; cases h
  | d :: ds, acc, r, c, fs, r', h => by
    simp only [comp] at h
    split at h
    · exact comp_noex step ds _ _ _ _ _ h
    · exact comp_noex step ds _ _ _ _ _ h
    · cases h
    · cases h
abbrev W0 : WX := fun _ _ _ _ => False

/-- a comprehension, by its turns -/
theorem lc_read {elt : CE} {tg : CT} {it : CI} {cond : CEs} {own : List (Str × Nat)} {Q : V → Hp → Prop} (hso : ∀ j ∈ slotsT tg, j ∈ own.map (·.2)) (h : tEv G K W Phi (.lc elt tg it cond own) sg H Q) :
    tLc (tI G K W Phi it) (tT K tg) (tCs G K W0 Phi cond) (tSh G K W0 Phi elt) (own.map (·.2)) sg H Q := by
  obtain ⟨J, r, fp, w, f⟩ := h
  refine ⟨J, r, fp, w, ?_⟩
  simp only [ev] at f
  cases e : evI Phi it r with
  | bad => rw [e] at f; exact f
  | ex c fs r1 => rw [e] at f; exact f
  | ok a r1 =>
    obtain ⟨items, lks⟩ := a
    rw [e] at f
    simp only [R.ok_bind] at f
    intro T S H1 J1 fp1 g y vs w1 wk s1 kp o1 el hlen t1 D hD
    simp only at el hlen wk
    generalize hvs : own.map (·.2) = ws at *
    generalize hst : (fun d q => match asg tg d (wipeR q ws) with
        | some q1 => (evC Phi cond q1).bind fun b q2 => if b = true then (ev Phi elt q2).sh.bind fun y q3 => R.ok (some y) (backR q q3 ws) else R.ok none (backR q q2 ws)
        | none => R.bad) = step at f
    have f' : Fin G K W (RepS K) sg H J fp ((comp step items [] r1).bind fun ys r2 => R.ok (Slot.lst ys) (unlks lks r2)) Q := f
    clear f
    cases ec : comp step items [] r1 with
    | bad => rw [ec] at f'; exact f'.elim
    | ex c fs r2 => exact absurd ec (comp_noex step items [] r1 c fs r2)
    | ok ys r2 =>
      rw [ec] at f'
      have f2 : Fin G K W (RepS K) sg H J fp (R.ok (Slot.lst ys) (unlks lks r2)) Q := f'
      clear f'
      have hnone : J1 D = none := by
        cases q : J1 D with
        | none => rfl
        | some o => rw [w1.same _ _ q] at hD; cases hD
      have nD : ∀ b, Own fp1 b → b ≠ D := fun b ⟨j, q⟩ z => by
        obtain ⟨o, ho⟩ := (w1.jn j b q).2
        rw [z, hD] at ho; cases ho
      have gD : ∀ b ∈ g, b ≠ D := fun b q z => by
        obtain ⟨_, _, o, ho⟩ := o1.off b q
        rw [z, hD] at ho; cases ho
      refine ⟨fun i m H => m = items.length - i ∧ i ≤ items.length ∧ ∃ J r fp acc ad, Wf K H J sg r fp ∧ S H J ∧ Opds K H J fp sg y vs g ∧ H D = some (.lst acc) ∧ ShAll K J acc ad ∧ acc.length ≤ i ∧ ¬ Own fp D ∧ J D = none ∧
          Step (fun b => Own fp1 b ∨ b ∈ g) H1 J1 (fun b => Own fp b ∨ b ∈ g ∨ b = D) H J ∧ comp step (items.drop i) ad r = .ok ys r2, ⟨_, rfl, Nat.zero_le _, J1, r1, fp1, [], [], ?_, ?_, ?_, upd_same, .nil, Nat.zero_le _, fun z => nD D z rfl, hnone, ?_, ec⟩, ?_⟩
      · exact w1.newOwn hD
      · exact kp _ _ _ _ _ _ s1 (step_own (F := fun _ => False) hD) fun _ _ z => z
      · exact Opds.stepG (step_own (F := Own fp1) hD) (fun b z => .inl z) o1 fun b q z => (o1.off b q).2.1 z
      · have st : Step (fun b => Own fp1 b ∨ b ∈ g) H1 J1 (fun b => (Own fp1 b ∨ b ∈ g) ∨ b = D) (upd H1 D (.lst [])) J1 := step_own hD
        exact st.weak fun b z => z.elim (fun z => .inl (.inl z)) fun z => z.elim (fun z => .inl (.inr z)) .inr
      · rintro i m H0 ⟨rfl, hi, J0, r0, fp0, acc, ad, w0, s0, o0, hD0, ha0, hl0, nO0, jD0, st0, ec0⟩
        by_cases hlt : i < items.length
        · refine .inr ⟨wk.go i H0 J0 w0.same s0 hlt, fun H' => _, fun H' q => ⟨items.length - (i + 1), by omega, q⟩, fun x H2 hy => ?_⟩
          obtain ⟨J2, d, hd, hx, sm2, s2, t2⟩ := wk.yld i H0 J0 x H2 w0.same s0 hlt hy
          have edrop : items.drop i = d :: items.drop (i + 1) := by
            rw [List.drop_eq_getElem_cons hlt]
            have := (List.getElem?_eq_some_iff.mp hd).2
            rw [this]
          rw [edrop] at ec0
          simp only [comp] at ec0
          have w2 : Wf K H2 J2 sg r0 fp0 := w0.step t2 sm2 fun _ _ z => z
          have hD2 : H2 D = some (.lst acc) := t2.fr D _ hD0 id
          have jD2 := (t2.off jD0 id ⟨_, hD0⟩).1
          have o2 : Opds K H2 J2 fp0 sg y vs g := by
            have t2' : Step (Own fp0) H0 J0 (Own fp0) H2 J2 := ⟨t2.js, fun b o q _ => t2.fr b o q id, fun b q => .inl q, fun b q => (t2.jg b q).imp id fun z => z.imp False.elim id⟩
            exact Opds.stepG t2' (fun _ z => z) o0 fun b q => (o0.off b q).2.1
          have gO : ∀ b ∈ g, ¬ Own fp0 b := fun b q => (o2.off b q).2.1
          have wW := w2.wipe ws
          cases ea : asg tg d (wipeR r0 ws) with
          | none =>
            rw [← hst] at ec0
            simp only [ea] at ec0
            cases ec0
          | some q1 =>
            have hstep : step d r0 = (evC Phi cond q1).bind fun b q2 => if b = true then (ev Phi elt q2).sh.bind fun y q3 => R.ok (some y) (backR r0 q3 ws) else R.ok none (backR r0 q2 ws) := by
              rw [← hst]; simp only [ea]
            rw [hstep] at ec0
            refine asg_ok ea wW hx fun sg3 fp3 w3 own3 ag3 => ?_
            have ag3' : Agree ws (L2.wipe sg ws) sg3 := ag3.mono hso
            refine ⟨agree_wipe ag3', J2, q1, fp3, w3, ?_⟩
            /- what holds at the turn's end -/
            have fin : ∀ {H4 J4 : Hp} {fp4 : Nat → List Addr} {q4 : Ro}, Wf K H4 J4 sg3 q4 fp4 → Step (Own fp3) H2 J2 (Own fp4) H4 J4 → ∀ {acc' : List V} {ad' : List PyData}, ShAll K J4 acc' ad' → acc'.length ≤ i + 1 → comp step (items.drop (i + 1)) ad' (backR r0 q4 ws) = .ok ys r2 →
                ∃ J r fp acc ad, Wf K (upd H4 D (.lst acc')) J sg r fp ∧ S (upd H4 D (.lst acc')) J ∧ Opds K (upd H4 D (.lst acc')) J fp sg y vs g ∧ (upd H4 D (.lst acc')) D = some (.lst acc) ∧ ShAll K J acc ad ∧ acc.length ≤ i + 1 ∧ ¬ Own fp D ∧ J D = none ∧
                  Step (fun b => Own fp1 b ∨ b ∈ g) H1 J1 (fun b => Own fp b ∨ b ∈ g ∨ b = D) (upd H4 D (.lst acc')) J ∧ comp step (items.drop (i + 1)) ad r = .ok ys r2 := by
              intro H4 J4 fp4 q4 w4 t4 acc' ad' ha' hl' ec'
              have t4' : Step (Own (fpW fp0 ws)) H2 J2 (Own fp4) H4 J4 := t4.widen own3
              obtain ⟨w5, own5⟩ := w2.back w4 ag3' t4' fun b z => z
              have nD4 := t4'.off jD2 (fun z => nO0 (fpW_own z)) ⟨_, hD2⟩
              have nO5 : ¬ Own (fpB fp0 fp4 ws) D := fun z => (own5 D z).elim nD4.2 nO0
              have jD4 := nD4.1
              have t5 : Step (fun b => b = D) H4 J4 (fun b => b = D) (upd H4 D (.lst acc')) J4 := step_upd
              have t24 : Step (fun b => Own fp0 b ∨ b = D) H2 J2 (fun b => Own (fpB fp0 fp4 ws) b ∨ b = D) (upd H4 D (.lst acc')) J4 := by
                refine ⟨t4'.js, fun b o q n => ?_, fun b q => ?_, fun b q => ?_⟩
                · rw [upd_ne fun z => n (.inr z)]
                  exact t4'.fr b o q fun z => n (.inl (fpW_own z))
                · rcases q with q | q
                  · rcases own5 b q with z | z
                    · exact (t4'.fn b z).imp (fun z => .inl (fpW_own z)) id
                    · exact .inl (.inl z)
                  · exact .inl (.inr q)
                · exact (t4'.jg b q).imp id fun z => z.imp (fun z => .inl (fpW_own z)) id
              have gF : ∀ b ∈ g, ¬ (Own fp0 b ∨ b = D) := fun b q z => z.elim (gO b q) (gD b q)
              refine ⟨J4, backR r0 q4 ws, fpB fp0 fp4 ws, acc', ad', w5.step t5 (same_updN w4.same jD4) (fun b z y => nO5 (by rw [← y]; exact z)), kp _ _ _ _ _ _ s2 t24 gF, Opds.stepG t24 (fun b z => .inl z) o2 gF, upd_same, ha', hl', nO5, jD4, ?_, ec'⟩
              have t02 : Step (fun b => Own fp0 b ∨ b ∈ g ∨ b = D) H0 J0 (fun b => Own fp0 b ∨ b ∈ g ∨ b = D) H2 J2 := ⟨t2.js, fun b o q _ => t2.fr b o q id, fun b q => .inl q, fun b q => (t2.jg b q).imp id fun z => z.imp False.elim id⟩
              refine (st0.trans t02).trans ⟨t24.js, fun b o q n => t24.fr b o q fun z => n (z.elim .inl fun z => .inr (.inr z)), fun b q => ?_, fun b q => (t24.jg b q).imp id fun z => z.imp (fun z => z.elim .inl fun z => .inr (.inr z)) id⟩
              rcases q with q | q | q
              · exact (t24.fn b (.inl q)).imp (fun z => z.elim .inl fun z => .inr (.inr z)) id
              · exact .inl (.inr (.inl q))
              · exact .inl (.inr (.inr q))
            cases e1 : evC Phi cond q1 with
            | bad => rw [e1] at ec0; cases ec0
            | ex c fs q2 => rw [e1] at ec0; cases ec0
            | ok b q2 =>
              rw [e1] at ec0
              intro H3 J3 fpc w3c t3c
              have nDc := (t3c.widen own3).off jD2 (fun z => nO0 (fpW_own z)) ⟨_, hD2⟩
              have hD3 : H3 D = some (.lst acc) := (t3c.widen own3).fr D _ hD2 fun z => nO0 (fpW_own z)
              cases b with
              | false =>
                simp only [R.bind, Bool.false_eq_true, if_false] at ec0
                rw [if_neg Bool.false_ne_true]
                have q := fin w3c t3c (shsMono (t2.js.trans t3c.js) ha0) (by omega) ec0
                have eH : upd H3 D (.lst acc) = H3 := by
                  funext b
                  by_cases z : b = D
                  · rw [z, upd_same, hD3]
                  · rw [upd_ne z]
                rw [eH] at q
                exact ⟨rfl, hlt, q⟩
              | true =>
                rw [if_pos rfl]
                simp only [R.bind, if_true] at ec0
                refine ⟨J3, q2, fpc, w3c, ?_⟩
                cases e2 : (ev Phi elt q2).sh with
                | bad => rw [e2] at ec0; cases ec0
                | ex c fs q3 => rw [e2] at ec0; cases ec0
                | ok yd q3 =>
                  rw [e2] at ec0
                  intro v H4 J4 fp4 g4 w4 hy _ t4
                  obtain ⟨rfl, hy⟩ := hy
                  have t4' := step_nil t4
                  have t34 := t3c.trans t4'
                  refine ⟨acc, (t34.widen own3).fr D _ hD2 fun z => nO0 (fpW_own z), by omega, rfl, hlt, ?_⟩
                  exact fin w4 t34 (shsApp (shsMono ((t2.js.trans t3c.js).trans t4'.js) ha0) (.cons hy .nil)) (by rw [List.length_append, List.length_singleton]; omega) ec0
        · have ei : i = items.length := by omega
          refine .inl ⟨wk.stop i H0 J0 w0.same s0 (by omega), ?_⟩
          rw [ei, List.drop_length] at ec0
          simp only [comp] at ec0
          cases ec0
          obtain ⟨fp3, w3, own3⟩ := o0.unlock w0
          rw [el] at w3
          refine f2 (.ref D) H0 J0 fp3 [D] w3 ⟨D, acc, rfl, rfl, hD0, ha0⟩ (fun b q => ?_) ?_
          · cases List.mem_singleton.mp q
            refine ⟨jD0, fun z => (own3 D z).elim nO0 fun z => gD D z rfl⟩
          · refine t1.trans (st0.weak fun b q => ?_)
            rcases q with q | q
            · exact (own3 b q).elim .inl fun z => .inr (.inl z)
            · exact .inr (.inr (List.mem_singleton.mp q))
end
end Ev
end

section
set_option Elab.async false
set_option linter.all false
set_option maxRecDepth 100000
set_option maxHeartbeats 4000000
namespace Ev
open PySem L2

/-! ### calls -/
def fpC (g : List Addr) (fp : Nat → List Addr) : Nat → List Addr
  | 0 => g
  | j + 1 => fp j
section
variable {K : PySem.W.Frag} {H J H1 J1 : Hp} {sg : St} {r : Ro} {fp fp1 : Nat → List Addr}
theorem Wf.nil (sm : Same J H) : Wf K H J [] [] (fun _ => []) := ⟨sm, rfl, fun i s e => by simp at e, fun _ _ => rfl, (fun _ _ _ h => nomatch h), (fun _ _ h => nomatch h)⟩
theorem Wf.cons {s : Slot} {v : V} {g : List Addr} (w : Wf K H J sg r fp) (hs : RepS K H J s v g) (hg : ∀ b ∈ g, J b = none ∧ ¬ Own fp b) : Wf K H J (some v :: sg) (s :: r) (fpC g fp) where
  same := w.same
  len := by rw [List.length_cons, List.length_cons, w.len]
  rep := fun i t e ne => by
    cases i with
    | zero => simp at e; subst e; exact ⟨v, rfl, hs⟩
    | succ i => exact w.rep i t (by simpa using e) ne
  emp := fun i e => by
    cases i with
    | zero =>
      simp at e
      subst e
      exact hs.elim
    | succ i => exact w.emp i (by simpa using e)
  dis := fun i j a h1 h2 => by
    cases i with
    | zero =>
      cases j with
      | zero => rfl
      | succ j => exact absurd ⟨j, h2⟩ (hg a h1).2
    | succ i =>
      cases j with
      | zero => exact absurd ⟨i, h1⟩ (hg a h2).2
      | succ j => rw [w.dis i j a h1 h2]
  jn := fun i a h => by
    cases i with
    | zero => exact ⟨(hg a h).1, hs.there a h⟩
    | succ i => exact w.jn i a h
theorem Wf.tail {o : Option V} {s : Slot} (w : Wf K H J (o :: sg) (s :: r) fp) : Wf K H J sg r (fun j => fp (j + 1)) where
  same := w.same
  len := by have := w.len; simpa using this
  rep := fun i t e ne => by
    have := w.rep (i + 1) t (by simpa using e) ne
    simpa using this
  emp := fun i e => w.emp (i + 1) (by simpa using e)
  dis := fun i j a h1 h2 => by have := w.dis (i + 1) (j + 1) a h1 h2; omega
  jn := fun i a h => w.jn (i + 1) a h
theorem Opds.args (sm : Same J H) : ∀ {x : List (PyData × Lk)} {vs : List V} {gs : List Addr}, Opds K H J fp sg x vs gs → ∃ fpA, Wf K H J (vs.map some) (x.map slotOf) fpA ∧ ∀ b, Own fpA b → b ∈ gs
  | _, _, _, .nil => ⟨_, Wf.nil sm, fun b ⟨_, q⟩ => nomatch q⟩
  | _, _, _, .cons (d := d) (l := l) (x := x) (v := v) (vs := vs) (g := g) (gs := gs) h n k => by
    obtain ⟨fpA, w, o⟩ := k.args sm
    have off := h.off
    have hs : RepS K H J (slotOf (d, l)) v g := by
      cases l with
      | none => exact h
      | some p => exact h.2.1
    refine ⟨fpC g fpA, w.cons hs fun b q => ⟨(off b q).1, fun z => n b q (o b z)⟩, fun b ⟨j, q⟩ => ?_⟩
    cases j with
    | zero => exact List.mem_append.mpr (.inl q)
    | succ j => exact List.mem_append.mpr (.inr (o b ⟨j, q⟩))
theorem putBack_ok : ∀ {x : List (PyData × Lk)} {vs : List V} {gs : List Addr}, Opds K H1 J1 fp1 sg x vs gs → ∀ {outs : Ro} {fpO : Nat → List Addr} {r : Ro} {fpr : Nat → List Addr}, Wf K H J (vs.map some) outs fpO → Wf K H J sg r fpr →
    (∀ b, Own fpO b → ¬ Own fpr b) → ∃ fp', Wf K H J sg (putBack (x.map (·.2)) outs r) fp' ∧ ∀ b, Own fp' b → Own fpr b ∨ Own fpO b
  | _, _, _, .nil, outs, fpO, r, fpr, wo, w, n => by
    refine ⟨fpr, ?_, fun b z => .inl z⟩
    cases outs <;> exact w
  | _, _, _, .cons (d := d) (l := l) (x := x) (v := v) (vs := vs) (g := g) (gs := gs) h _ k, outs, fpO, r, fpr, wo, w, n => by
    cases outs with
    | nil => have := wo.len; simp at this
    | cons o os =>
      have wt : Wf K H J (vs.map some) os (fun j => fpO (j + 1)) := Wf.tail (by simpa using wo)
      cases l with
      | none =>
        obtain ⟨fp', w', q⟩ := putBack_ok k wt w fun b ⟨j, z⟩ => n b ⟨j + 1, z⟩
        exact ⟨fp', w', fun b z => (q b z).imp id fun ⟨j, y⟩ => ⟨j + 1, y⟩⟩
      | some p =>
        obtain ⟨oi, s⟩ := p
        cases oi with
        | none =>
          obtain ⟨fp', w', q⟩ := putBack_ok k wt w fun b ⟨j, z⟩ => n b ⟨j + 1, z⟩
          exact ⟨fp', w', fun b z => (q b z).imp id fun ⟨j, y⟩ => ⟨j + 1, y⟩⟩
        | some i =>
        have hv : sg[i]? = some (some v) := h.2.2.1 i rfl
        have hi : i < r.length := by rw [← w.len]; exact (List.getElem?_eq_some_iff.mp hv).1
        have key : ∃ fp2, Wf K H J sg (r.set i o) fp2 ∧ ∀ b, Own fp2 b → Own fpr b ∨ b ∈ fpO 0 := by
          cases o with
          | non => exact ⟨_, w.drop i, fun b z => .inl (own_wipe z)⟩
          | sh d' =>
            obtain ⟨v', e1, e2⟩ := wo.rep 0 (.sh d') rfl (fun z => nomatch z)
            simp at e1
            subst e1
            exact ⟨_, w.putKeep hi hv e2 fun b q => ⟨(wo.jn 0 b q).1, fun j _ z => n b ⟨0, q⟩ ⟨j, z⟩⟩, fun b z => (own_set z).elim .inr .inl⟩
          | lst d' =>
            obtain ⟨v', e1, e2⟩ := wo.rep 0 (.lst d') rfl (fun z => nomatch z)
            simp at e1
            subst e1
            exact ⟨_, w.putKeep hi hv e2 fun b q => ⟨(wo.jn 0 b q).1, fun j _ z => n b ⟨0, q⟩ ⟨j, z⟩⟩, fun b z => (own_set z).elim .inr .inl⟩
        obtain ⟨fp2, w2, q2⟩ := key
        obtain ⟨fp', w', q⟩ := putBack_ok k wt w2 fun b ⟨j, z⟩ y => (q2 b y).elim (n b ⟨j + 1, z⟩) fun y => by have := wo.dis _ _ b z y; omega
        refine ⟨fp', w', fun b z => ?_⟩
        rcases q b z with y | ⟨j, y⟩
        · exact (q2 b y).imp id fun y => ⟨0, y⟩
        · exact .inr ⟨j + 1, y⟩
end
section
variable {G : Errs} {K : PySem.W.Frag} {W : WX} {sg : St} {H J : Hp} {fp : Nat → List Addr} {Phi : Nat → Ro → FR}
theorem call_read {f : Nat} {es : CEs} {Q : V → Hp → Prop} (h : tEv G K W Phi (.call f es) sg H Q) : seqOpd G K W (ar1 Phi) es sg H fun vs H2 => spF G K (Phi f) vs H2 Q (WE W sg) := by
  obtain ⟨J, r, fp, w, f⟩ := h
  refine seqOpd_of es w ?_
  simp only [ev, evA_many] at f
  cases e : many (ar1 Phi) es r with
  | bad => rw [e] at f; exact f
  | ex c fs r1 => rw [e] at f; exact f
  | ok x r1 =>
    rw [e] at f
    simp only [R.ok_bind] at f
    intro vs H1 J1 fp1 gs w1 o1 t1
    obtain ⟨fpA, wA, ownA⟩ := o1.args w1.same
    refine ⟨J1, x.map slotOf, fpA, wA, ?_⟩
    have apart : ∀ b, Own fp1 b → ¬ Own fpA b := fun b z y => (o1.off b (ownA b y)).2.1 z
    have back : ∀ {outs : Ro} {fpO : Nat → List Addr} {H2 J2 : Hp} {F : Addr → Prop}, Wf K H2 J2 (vs.map some) outs fpO → Step (Own fpA) H1 J1 F H2 J2 → (∀ b, Own fpO b → F b) →
        ∃ fp', Wf K H2 J2 sg (putBack (x.map (·.2)) outs r1) fp' ∧ (∀ b, Own fp' b → Own fp1 b ∨ Own fpO b) := by
      intro outs fpO H2 J2 F wo t hF
      have w2 : Wf K H2 J2 sg r1 fp1 := w1.step t wo.same fun b z y => apart b z y
      exact putBack_ok o1 wo w2 fun b z y => by
        obtain ⟨j, y⟩ := y
        exact (t.off (w1.jn j b y).1 (apart b ⟨j, y⟩) (w1.jn j b y).2).2 (hF b z)
    cases ef : Phi _ (x.map slotOf) with
    | bad => rw [ef] at f; exact f
    | ret s outs =>
      rw [ef] at f
      intro v H2 J2 fpO g wo q n t
      obtain ⟨fp', w', own'⟩ := back wo t fun b z => .inl z
      refine f v H2 J2 fp' g w' q (fun b z => ⟨(n b z).1, fun y => ?_⟩) (t1.trans ?_)
      · rcases own' b y with y | y
        · obtain ⟨j, y⟩ := y
          exact (t.off (w1.jn j b y).1 (apart b ⟨j, y⟩) (w1.jn j b y).2).2 (.inr z)
        · exact (n b z).2 y
      · refine ⟨t.js, fun b o q n => t.fr b o q fun z => n (.inr (ownA b z)), fun b q => ?_, fun b q => (t.jg b q).imp id fun z => z.imp (fun z => .inr (ownA b z)) id⟩
        rcases q with q | q
        · rcases own' b q with z | z
          · exact .inl (.inl z)
          · exact (t.fn b (.inl z)).imp (fun z => .inr (ownA b z)) id
        · exact (t.fn b (.inr q)).imp (fun z => .inr (ownA b z)) id
    | ex c fs outs =>
      rw [ef] at f
      intro H2 J2 fpO cls d wo q t
      obtain ⟨fp', w', own'⟩ := back wo t fun b z => z
      refine f H2 J2 fp' cls d w' q (t1.trans ?_)
      refine ⟨t.js, fun b o q n => t.fr b o q fun z => n (.inr (ownA b z)), fun b q => ?_, fun b q => (t.jg b q).imp id fun z => z.imp (fun z => .inr (ownA b z)) id⟩
      rcases own' b q with z | z
      · exact .inl (.inl z)
      · exact (t.fn b z).imp (fun z => .inr (ownA b z)) id
end
end Ev
end

section
set_option Elab.async false
set_option linter.all false
set_option maxRecDepth 100000
set_option maxHeartbeats 4000000
namespace Ev
open PySem L2

theorem shsErase {K : PySem.W.Frag} {J : Hp} : ∀ {vs : List V} {ds : List PyData} (j : Nat), ShAll K J vs ds → ShAll K J (vs.eraseIdx j) (ds.eraseIdx j)
  | _, _, _, .nil => .nil
  | _, _, 0, .cons _ g => g
  | _, _, j + 1, .cons h g => .cons h (shsErase j g)
theorem mt_popAt' {X : Cx} : MtM X "list.pop" (fun x vs H Q => ∃ l xs i k y, x = .ref l ∧ vs = [.int i] ∧ H l = some (.lst xs) ∧ ixN xs.length i = some k ∧ xs[k]? = some y ∧ Q y (upd H l (.lst (xs.eraseIdx k)))) := by
  intro pins s sg H x vs v us Q I rx rv h
  obtain ⟨l, xs, i, k, y, rfl, rfl, hH, hi, hy, q⟩ := h
  have hl := (I.lstM hH).1
  rw [sizeLine_eq] at hl
  obtain ⟨b1, b2, b3, b4⟩ := ixN_seq hi
  exact mt_popAt pins s sg H _ _ v us Q I rx rv ⟨l, xs, i, k, y, rfl, rfl, hH, by omega, by omega, b1, hy, q⟩

theorem pe_callS0 {X : Cx} {CX : CXT} {k : Nat} {f : Addr} {fd : FuncData} {ps : List Str} {sp : Sp} {E : St → XK} {x : Str} {p pos : Pos} (F : FnOk X.prog X.w X.K X.mg X.base CX k f fd ps sp) (hr : Room k X.A) (hg : Gl X x) (hm : X.mg x = some (.ref f)) (hk : PySem.W.keepIn X.K (.ref f) = true) (hb : Binds X.K fd ps []) (hx : ∀ sg, PassesAt CX X sg (E sg))
    (hdb : (x == ("__debug__" : Str)) = false) : PE X (.Call (.Name x p) [] [] pos) (tCallS sp E tNil) := by
  refine ⟨fun pins s sg H Q I h => ?_⟩
  refine wpAny_Call_Name_kw (ld_glob I hg hm ?_ hdb)
  exact PySem.W.callWith_K0 I.kIn hk (run_fnS (us := []) F hr hb (hx sg) I .nil h)
section
variable {P : Prg} {N : List Str} {k : Nat} {Phi : Nat → Ro → FR}
/-! ### names -/
theorem soundVar {X : Cx} {sc : Scope} {fb : Str → Bool} {W : WX} {i : Nat} {x : Str} {p : Pos} (g : Good P N k Phi X sc fb) (h : isV N sc i x = true) : PE X (.Name x p) (tEv P.errs X.K W Phi (.var i)) := by
  refine PE.imp (isV_ok g h) fun sg H Q ⟨J, r, fp, w, f⟩ => ?_
  simp only [ev, getV] at f
  split at f
  · rename_i d e
    obtain ⟨v, hv, q⟩ := w.rep i _ e (fun z => nomatch z)
    exact ⟨v, hv, f v H J fp [] w ⟨rfl, q.2⟩ (fun b z => nomatch z) (nil_step Step.refl)⟩
  · rename_i ds e
    obtain ⟨v, J', q, hv, w', t⟩ := w.freeze e
    exact ⟨v, hv, f v H J' _ [] w' ⟨rfl, q⟩ (fun b z => nomatch z) (nil_step t)⟩
  · exact f.elim
theorem soundVarO {X : Cx} {sc : Scope} {fb : Str → Bool} {W : WX} {i : Nat} {x : Str} {p : Pos} (g : Good P N k Phi X sc fb) (h : isV N sc i x = true) : PE X (.Name x p) (tOpd P.errs X.K W (rd1 Phi) (.var i)) := by
  refine PE.imp (isV_ok g h) fun sg H Q ⟨J, r, fp, w, f⟩ => ?_
  simp only [rd1, getL] at f
  split at f
  · rename_i d e
    obtain ⟨v, hv, q⟩ := w.rep i _ e (fun z => nomatch z)
    exact ⟨v, hv, f v H J fp [] w ⟨rfl, q.2⟩ (nil_step Step.refl)⟩
  · rename_i ds e
    obtain ⟨v, hv, q⟩ := w.rep i _ e (fun z => nomatch z)
    refine ⟨v, hv, f v H J (fpSet fp i []) (fp i) (w.drop i) ⟨rfl, q, (fun j e => by cases e; exact hv), fun b z => ⟨(w.jn i b z).1, own_wipe_ne w z⟩⟩ (Step.refl.weak fun b z => z.elim own_wipe fun z => ⟨i, z⟩)⟩
  · exact f.elim
theorem soundRefA {X : Cx} {sc : Scope} {fb : Str → Bool} {W : WX} {i : Nat} {x : Str} {p : Pos} (g : Good P N k Phi X sc fb) (h : isV N sc i x = true) : PE X (.Name x p) (tOpd P.errs X.K W (ar1 Phi) (.ref i)) := by
  refine PE.imp (isV_ok g h) fun sg H Q ⟨J, r, fp, w, f⟩ => ?_
  simp only [ar1, getR] at f
  split at f
  · rename_i ds e
    obtain ⟨v, hv, q⟩ := w.rep i _ e (fun z => nomatch z)
    refine ⟨v, hv, f v H J (fpSet fp i []) (fp i) (w.drop i) ⟨rfl, q, (fun j e => by cases e; exact hv), fun b z => ⟨(w.jn i b z).1, own_wipe_ne w z⟩⟩ (Step.refl.weak fun b z => z.elim own_wipe fun z => ⟨i, z⟩)⟩
  · exact f.elim
/-- an operand by its expression -/
theorem PE.opd {X : Cx} {sc : Scope} {fb : Str → Bool} {W : WX} {c : CE} {e : Expr} (g : Good P N k Phi X sc fb) (h : okE P.tx N sc c e = true) (q : PE X e (tEv P.errs X.K W Phi c)) : PE X e (tOpd P.errs X.K W (rd1 Phi) c) := by
  have gen : (∀ r, rd1 Phi c r = (ev Phi c r).sh.bind fun d r1 => .ok (d, none) r1) → PE X e (tOpd P.errs X.K W (rd1 Phi) c) := fun e1 =>
    PE.imp (PE.sh q) fun sg H Q ⟨J, r, fp, w, f⟩ => ⟨J, r, fp, w, finO_sh (by rw [e1] at f; exact f)⟩
  cases c with
  | var i =>
    cases e <;> simp only [okE, Bool.false_eq_true] at h
    exact soundVarO g h
  | _ => exact gen fun r => rfl
theorem PE.own {X : Cx} {W : WX} {c : CE} {e : Expr} (q : PE X e (tEv P.errs X.K W Phi c)) : PE X e (tOpd P.errs X.K W (ar1 Phi) (.own c)) := PE.imp q fun sg H Q ⟨J, r, fp, w, f⟩ => by
  refine ⟨J, r, fp, w, ?_⟩
  simp only [ar1] at f
  cases e : ev Phi c r with
  | bad => rw [e] at f; exact f
  | ex c fs r1 => rw [e] at f; exact f
  | ok s r1 =>
    rw [e] at f
    simp only [R.ok_bind] at f
    intro v H1 J1 fp1 g w1 rp n t
    cases s with
    | lst ls => exact f v H1 J1 fp1 g w1 ⟨rfl, rp, (fun i z => nomatch z), n⟩ t
    | _ => exact f.elim
theorem PE.arg {X : Cx} {sc : Scope} {fb : Str → Bool} {W : WX} {c : CE} {e : Expr} (g : Good P N k Phi X sc fb) (h : okE P.tx N sc c e = true) (q : PE X e (tEv P.errs X.K W Phi c)) (q2 : ∀ c', c = .own c' → PE X e (tOpd P.errs X.K W (ar1 Phi) (.own c'))) : PE X e (tOpd P.errs X.K W (ar1 Phi) c) := by
  have gen : (∀ r, ar1 Phi c r = (ev Phi c r).sh.bind fun d r1 => .ok (d, none) r1) → PE X e (tOpd P.errs X.K W (ar1 Phi) c) := fun e1 =>
    PE.imp (PE.sh q) fun sg H Q ⟨J, r, fp, w, f⟩ => ⟨J, r, fp, w, finO_sh (by rw [e1] at f; exact f)⟩
  cases c with
  | ref i =>
    cases e <;> simp only [okE, Bool.false_eq_true] at h
    exact soundRefA g h
  | own c => exact q2 c rfl
  | _ => exact gen fun r => rfl
theorem PE.itm {X : Cx} {W : WX} {c : CE} {e : Expr} (q : PE X e (tEv P.errs X.K W Phi c)) : PE X e (tOpd P.errs X.K W (it1 Phi) c) :=
  PE.imp (PE.sh q) fun sg H Q ⟨J, r, fp, w, f⟩ => ⟨J, r, fp, w, finO_sh f⟩

/-! ### displays -/
theorem disp_read {X : Cx} {W : WX} {es : CEs} {sg : St} {H : Hp} {Q : List V → Hp → Prop} {J : Hp} {r : Ro} {fp : Nat → List Addr} (w : Wf X.K H J sg r fp)
    (h : match evs Phi es r with
      | .ok ds r' => ∀ vs H' J' fp', Wf X.K H' J' sg r' fp' → ShAll X.K J' vs ds → vs.length = es.len → Step (Own fp) H J (Own fp') H' J' → Q vs H'
      | .ex c fs r' => ∀ H' J' fp' cls d, Wf X.K H' J' sg r' fp' → XRep P.errs X.K H' J' c fs cls d → Step (Own fp) H J (Own fp') H' J' → W cls d sg H'
      | .bad => False) : seqOpd P.errs X.K W (it1 Phi) es sg H Q := by
  refine seqOpd_of es w ?_
  rw [evs_many] at h
  cases e : many (it1 Phi) es r with
  | bad => rw [e] at h; exact h
  | ex c fs r1 => rw [e] at h; exact h
  | ok x r1 =>
    rw [e] at h
    simp only [R.ok_bind] at h
    intro vs H1 J1 fp1 gs w1 o1 t1
    obtain ⟨rfl, q⟩ := o1.shared (it1_none e)
    exact h vs H1 J1 fp1 w1 q (o1.len.trans (many_len e)) (step_nil t1)

/-! ### comparisons and operators by their rules -/
theorem bin_ok {X : Cx} {o : Op} {op : Operator} (h : binOf o = some op) : OpR X (binaryOp op) (rPrim2 X.K o) := by
  cases o <;> cases h
  · exact pm_add
  · exact pm_sub
  · exact pm_mul
  · exact pm_fdiv
  · exact pm_mod
  · exact pm_pow
theorem cmp_ok {X : Cx} {sc : Scope} {fb : Str → Bool} {o : Op} {op : CmpOp} (g : Good P N k Phi X sc fb) (h : cmpOf o = some op) : OpR X (compareOp op) (rPrim2 X.K o) := by
  have hu := g.room.units
  cases o <;> cases h
  · exact pm_eq hu
  · exact pm_ne hu
  · exact pm_lt
  · exact pm_le
  · exact pm_gt
  · exact pm_ge
theorem noset {op : CmpOp} {b : Expr} (h : isSet b = false) : behindInMarks op b = false := by
  cases b <;> first | rfl | (simp [isSet] at h)
theorem bname_ok {X : Cx} {sc : Scope} {fb : Str → Bool} {o : Op} {x : Str} {e : Expr} {es : List Expr} {t : TA} {p pos : Pos} (g : Good P N k Phi X sc fb) (h : bname o = some x) (hg : isG sc x = true) (ha : PA X (e :: es) t) (hst : ∀ y ∈ e :: es, isStar y = false) :
    PE X (.Call (.Name x p) (e :: es) [] pos) (tCB (rPrim X.K o) t) := by
  obtain ⟨h1, h2⟩ := isG_ok g hg
  have s1 := star_ok (env := X.env) (es := es) (hst e (List.mem_cons_self ..))
  have s2 := plain_ok (pos := pos) (env := X.env) (es := es) fun y q => hst y (List.mem_cons_of_mem _ q)
  cases o <;> cases h
  · exact pe_callB pm_len h1 (g.blt _ (by simp [bnames])) PySem.boot_len ha (by decide) h2 s1 s2
  · exact pe_callB (pm_max2 g.calm) h1 (g.blt _ (by simp [bnames])) (by decide +kernel) ha (by decide) h2 s1 s2
  · exact pe_callB (pm_min2 g.calm) h1 (g.blt _ (by simp [bnames])) (by decide +kernel) ha (by decide) h2 s1 s2
  · exact pe_callTy pm_int h1 (g.blt _ (by simp [bnames])) (by decide +kernel) ha (by decide) h2 s1 s2
  · exact pe_callTy pm_list h1 (g.blt _ (by simp [bnames])) (by decide +kernel) ha (by decide) h2 s1 s2
  · exact pe_callTy pm_tuple h1 (g.blt _ (by simp [bnames])) (by decide +kernel) ha (by decide) h2 s1 s2
  · exact pe_callB (pm_sorted g.room.units) h1 (g.blt _ (by simp [bnames])) (by decide +kernel) ha (by decide) h2 s1 s2
/-- isinstance with a built-in class -/
theorem isi_ok {X : Cx} {sc : Scope} {fb : Str → Bool} {t : String} {a : Expr} {ta : TE} {p p2 pos : Pos} (g : Good P N k Phi X sc fb) (hg : isG sc "isinstance" = true) (hg2 : isG sc (Str.ofString t) = true) (ht : tyOk t = true) (ha : PE X a ta) (hst : isStar a = false) :
    PE X (.Call (.Name "isinstance" p) [a, .Name (Str.ofString t) p2] [] pos) (tCB (rIsiP X.K t) (tCons ta (tCons (tC (.ty t)) tNil))) := by
  obtain ⟨h1, h2⟩ := isG_ok g hg
  obtain ⟨h3, h4⟩ := isG_ok g hg2
  have s1 := star_ok (env := X.env) (es := [.Name (Str.ofString t) p2]) hst
  have hb : ∃ v, X.mg (Str.ofString t) = none ∧ bootBuiltins (Str.ofString t) = some (.type t) ∧ (Str.ofString t : Str) ≠ "__name__" ∧ v = 0 := by
    simp only [tyOk, Bool.or_eq_true, beq_iff_eq] at ht
    rcases ht with ((((rfl | rfl) | rfl) | rfl) | rfl) | rfl
    · exact ⟨0, g.blt _ (by simp [bnames]), by decide +kernel, by decide +kernel, rfl⟩
    · exact ⟨0, g.blt _ (by simp [bnames]), by decide +kernel, by decide +kernel, rfl⟩
    · exact ⟨0, g.blt _ (by simp [bnames]), by decide +kernel, by decide +kernel, rfl⟩
    · exact ⟨0, g.blt _ (by simp [bnames]), by decide +kernel, by decide +kernel, rfl⟩
    · exact ⟨0, g.blt _ (by simp [bnames]), by decide +kernel, by decide +kernel, rfl⟩
    · exact ⟨0, g.blt _ (by simp [bnames]), by decide +kernel, by decide +kernel, rfl⟩
  obtain ⟨_, b1, b2, b3, _⟩ := hb
  have pt : PE X (.Name (Str.ofString t) p2) (tC (.ty t)) := pe_bltn h3 b1 b2 rfl b3 h4
  exact pe_callB (pm_isi (t := t)) h1 (g.blt _ (by simp [bnames])) (by decide +kernel) (pa_cons ha (pa_cons pt pa_nil rfl) s1) (by decide) h2 s1 rfl
section
variable {X : Cx} {sc : Scope} {fb : Str → Bool}
theorem mthd_ok {m : Str} {i : Nat} {e x : Expr} (h : mthd N m i sc e = some x) : ∃ y p ap cp, e = .Call (.Attribute (.Name y p) m ap) [x] [] cp ∧ isV N sc i y = true ∧ isStar x = false ∧ (ap.endLine == cp.line) = true := by
  unfold mthd at h
  split at h
  · split at h
    · rename_i hc
      cases h
      simp only [Bool.and_eq_true, decide_eq_true_eq, Bool.not_eq_true'] at hc
      obtain ⟨⟨⟨rfl, h2⟩, h3⟩, h4⟩ := hc
      exact ⟨_, _, _, _, rfl, h2, h3, h4⟩
    · cases h
  · cases h
theorem meth_list {m : Str} {id : String} {rr : V → List V → Hp → VK → Prop} {y : Str} {p ap cp : Pos} {x : Expr} {i : Nat} {t : TE} (g : Good P N k Phi X sc fb) (slot : PySem.Slot "list" m id) (hty : typeOf (.builtin id) = pure (.type "method_descriptor")) (hm : MtM X id rr) (hv : isV N sc i y = true) (hs : isStar x = false) (hl : (ap.endLine == cp.line) = true) (hx : PE X x t) :
    PE X (.Call (.Attribute (.Name y p) m ap) [x] [] cp) (tBM X.K "list" rr (tVar i) (tCons t tNil)) := by
  have st := star_ok (env := X.env) (es := []) hs
  refine pe_bm PySem.F.plainAttrs_list slot hty hm (isV_ok g hv) (pa_cons hx pa_nil st) rfl ?_ hl st rfl
  rw [st]
  rfl

end
end
end Ev
end

section
set_option Elab.async false
set_option linter.all false
set_option maxRecDepth 100000
set_option maxHeartbeats 4000000
namespace Ev
open PySem L2

/-- a list or a tuple that is walked, its length told -/
def iSeq (K : PySem.W.Frag) (tl : TE) : TI := fun sg H R => tl sg H fun x H1 => (∃ a xs, x = .ref a ∧ SqL K H1 a xs ∧ (xs.length ≤ sizeLine → R (Itl K a) H1)) ∨ (∃ a xs, x = .ref a ∧ SqT K H1 a xs ∧ (xs.length ≤ sizeLine → R (Itt K a) H1))
theorem pi_seq {X : Cx} {tg l : Expr} {tl : TE} (hl : PE X l tl) : PI X tg l (iSeq X.K tl) := by
  refine ⟨fun pins s sg H R I h => ?_⟩
  refine thn (hl.run pins s sg H _ I h) fun v s1 ⟨x, H1, I1, r1, q1⟩ => ?_
  rcases q1 with ⟨a, xs, e, hq, q⟩ | ⟨a, xs, e, hq, q⟩
  · subst e
    cases r1
    obtain ⟨its, rv, p, hz⟩ := I1.list hq
    refine wpAny_pyIter_list p.isList ?_
    refine ⟨s1.heap.objs.size, [s1.heap.objs.size], _, _, H1, rfl, I1.kept (t' := s1.toks) fun b o e => Heap.get?_push_of_some _ e, turn_list a _, ⟨_, Heap.get?_push_size _ rfl, rfl, rfl⟩, fun b hb => ?_, q hz⟩
    have e : b = s1.heap.objs.size := by simpa using hb
    subst e
    exact I1.fpOk (Nat.le_refl _) (I1.hok.fresh (Nat.le_refl _))
  · subst e
    cases r1
    obtain ⟨its, rv, p, hz⟩ := I1.tuple hq
    refine wpAny_pyIter_tuple (show s1.heap.IsTuple a its.toArray from p) ?_
    refine ⟨s1.heap.objs.size, [s1.heap.objs.size], _, _, H1, rfl, I1.kept (t' := s1.toks) fun b o e => Heap.get?_push_of_some _ e, turn_tuple a _, ⟨_, Heap.get?_push_size _ rfl, rfl, rfl⟩, fun b hb => ?_, q hz⟩
    have e : b = s1.heap.objs.size := by simpa using hb
    subst e
    exact I1.fpOk (Nat.le_refl _) (I1.hok.fresh (Nat.le_refl _))

section
variable {G : Errs} {K : PySem.W.Frag} {W : WX} {sg : St} {H J : Hp} {fp : Nat → List Addr} {Phi : Nat → Ro → FR}
theorem keeps_J {S : Hp → Prop} (h : ∀ J J', Same J J' → S J → S J') : Keeps [] (fun _ J => S J) := fun F F' H J H' J' s t _ => h J J' t.js s
/-- the walk of shared data -/
theorem seq_sh {d : PyData} {r1 : Ro} {Q : It → Hp → Prop} {v : V} {H1 J1 : Hp} {fp1 : Nat → List Addr} (w1 : Wf K H1 J1 sg r1 fp1) (q : Sh K J1 v d)
    (f : FinI G K W sg H1 J1 fp1 (seqI d [] r1) Q) :
    (∃ a xs, v = .ref a ∧ SqL K H1 a xs ∧ (xs.length ≤ sizeLine → Q (Itl K a) H1)) ∨ (∃ a xs, v = .ref a ∧ SqT K H1 a xs ∧ (xs.length ≤ sizeLine → Q (Itt K a) H1)) := by
  cases q with
  | lst h1 h2 =>
    rename_i a xs ds
    refine .inl ⟨a, xs, rfl, .of (w1.same _ _ h1), fun hl => ?_⟩
    exact f (Itl K a) (fun _ J => J a = some (.lst xs) ∧ ShAll K J xs ds) H1 J1 fp1 [] [] [] w1 (walks_list fun H J sm s => ⟨.of (sm _ _ s.1), s.2⟩) ⟨h1, h2⟩ (keeps_J fun J J' js s => ⟨js _ _ s.1, shsMono js s.2⟩) .nil rfl (by rw [← shsLen h2]; exact hl) (nil_step Step.refl)
  | tup h1 h2 =>
    rename_i a xs ds
    refine .inr ⟨a, xs, rfl, .of (w1.same _ _ h1), fun hl => ?_⟩
    exact f (Itt K a) (fun _ J => J a = some (.tup xs) ∧ ShAll K J xs ds) H1 J1 fp1 [] [] [] w1 (walks_tup fun H J sm s => ⟨.of (sm _ _ s.1), s.2⟩) ⟨h1, h2⟩ (keeps_J fun J J' js s => ⟨js _ _ s.1, shsMono js s.2⟩) .nil rfl (by rw [← shsLen h2]; exact hl) (nil_step Step.refl)
  | non => exact f.elim
  | bl => exact f.elim
  | int => exact f.elim
  | str => exact f.elim
  | scr => exact f.elim
theorem FinI.later {x : R (List PyData × List Lk)} {Q : It → Hp → Prop} {H1 J1 : Hp} {fp1 : Nat → List Addr} (s : Step (Own fp) H J (Own fp1) H1 J1) (h : FinI G K W sg H J fp x Q) : FinI G K W sg H1 J1 fp1 x Q := by
  cases x with
  | ok a r => exact fun T S H' J' fp' g y vs w wk s1 kp o e hl t => h T S H' J' fp' g y vs w wk s1 kp o e hl (s.trans t)
  | ex c fs r => exact fun H' J' fp' cls d w q t => h H' J' fp' cls d w q (s.trans t)
  | bad => exact h
theorem FinI.bindD {x : R PyData} {f : PyData → Ro → R (List PyData × List Lk)} {Q : It → Hp → Prop} {T : V → Hp → Prop} (h : FinI G K W sg H J fp (x.bind f) Q)
    (k : ∀ d r1 v H1 J1 fp1, x = .ok d r1 → Wf K H1 J1 sg r1 fp1 → Sh K J1 v d → FinI G K W sg H1 J1 fp1 (f d r1) Q → T v H1) : Fin G K W (RepD K) sg H J fp x T := by
  cases x with
  | ok d r1 =>
    intro v H1 J1 fp1 g w q n t
    obtain ⟨rfl, q⟩ := q
    exact k d r1 v H1 J1 fp1 rfl w q (FinI.later (step_nil t) h)
  | ex c fs r => exact h
  | bad => exact h
/-- from a test to the value -/
theorem tr_ev {c : CE} {Q : Bool → Hp → Prop} (h : tTr G K W Phi c sg H Q) : tEv G K W Phi c sg H fun v H' => ∃ b, v = .bl b ∧ Q b H' := by
  obtain ⟨J, r, fp, w, f⟩ := h
  refine ⟨J, r, fp, w, ?_⟩
  cases e : ev Phi c r with
  | bad => rw [e] at f; exact f
  | ex c fs r1 => rw [e] at f; exact f
  | ok s r1 =>
    rw [e] at f
    intro v H1 J1 fp1 g w1 q n t
    cases s with
    | non => exact f.elim
    | lst ds => exact f.elim
    | sh d =>
      obtain ⟨rfl, q⟩ := q
      cases q with
      | bl b => exact ⟨b, rfl, f H1 J1 fp1 w1 (step_nil t)⟩
      | _ => exact f.elim
theorem FinB.later {x : R Bool} {Q : Bool → Hp → Prop} {H1 J1 : Hp} {fp1 : Nat → List Addr} (s : Step (Own fp) H J (Own fp1) H1 J1) (h : FinB G K W sg H J fp x Q) : FinB G K W sg H1 J1 fp1 x Q := by
  cases x with
  | ok a r => exact fun H' J' fp' w t => h H' J' fp' w (s.trans t)
  | ex c fs r => exact fun H' J' fp' cls d w q t => h H' J' fp' cls d w q (s.trans t)
  | bad => exact h
theorem not_read {a : CE} {Q : Bool → Hp → Prop} (h : tTr G K W Phi (.not a) sg H Q) : tNot (tTr G K W Phi a) sg H Q := by
  obtain ⟨J, r, fp, w, f⟩ := h
  refine ⟨J, r, fp, w, ?_⟩
  simp only [ev] at f
  cases e : (ev Phi a r).truth with
  | bad => rw [e] at f; exact f
  | ex c fs r1 => rw [e] at f; exact f
  | ok b r1 => rw [e] at f; exact f
theorem and_read {a b : CE} {Q : Bool → Hp → Prop} (h : tTr G K W Phi (.and a b) sg H Q) : tAnd (tTr G K W Phi a) (tTr G K W Phi b) sg H Q := by
  obtain ⟨J, r, fp, w, f⟩ := h
  refine ⟨J, r, fp, w, ?_⟩
  simp only [ev] at f
  cases e : (ev Phi a r).truth with
  | bad => rw [e] at f; exact f
  | ex c fs r1 => rw [e] at f; exact f
  | ok x r1 =>
    rw [e] at f
    intro H1 J1 fp1 w1 t
    have f1 := FinB.later t f
    cases x with
    | true => exact ⟨J1, r1, fp1, w1, f1⟩
    | false => exact f1 H1 J1 fp1 w1 Step.refl
theorem or_read {a b : CE} {Q : Bool → Hp → Prop} (h : tTr G K W Phi (.or a b) sg H Q) : tOr (tTr G K W Phi a) (tTr G K W Phi b) sg H Q := by
  obtain ⟨J, r, fp, w, f⟩ := h
  refine ⟨J, r, fp, w, ?_⟩
  simp only [ev] at f
  cases e : (ev Phi a r).truth with
  | bad => rw [e] at f; exact f
  | ex c fs r1 => rw [e] at f; exact f
  | ok x r1 =>
    rw [e] at f
    intro H1 J1 fp1 w1 t
    have f1 := FinB.later t f
    cases x with
    | false => exact ⟨J1, r1, fp1, w1, f1⟩
    | true => exact f1 H1 J1 fp1 w1 Step.refl
theorem notV_read {a : CE} {Q : V → Hp → Prop} (h : tEv G K W Phi (.not a) sg H Q) : tNotV (tEv G K W Phi a) sg H Q := by
  obtain ⟨J, r, fp, w, f⟩ := h
  refine tr_ev (Q := fun b H' => Q (.bl (!b)) H') ⟨J, r, fp, w, ?_⟩
  simp only [ev] at f
  cases e : (ev Phi a r).truth with
  | bad => rw [e] at f; exact f
  | ex c fs r1 => rw [e] at f; exact f
  | ok b r1 =>
    rw [e] at f
    exact fun H1 J1 fp1 w1 t => f _ H1 J1 fp1 [] w1 ⟨rfl, .bl _⟩ (fun b z => nomatch z) (nil_step t)
theorem andV_read {a b : CE} {Q : V → Hp → Prop} (h : tEv G K W Phi (.and a b) sg H Q) : tAndV (tEv G K W Phi a) (tEv G K W Phi b) sg H Q := by
  obtain ⟨J, r, fp, w, f⟩ := h
  refine tr_ev (Q := fun b' H' => if b' = true then tEv G K W Phi b sg H' Q else Q (.bl false) H') ⟨J, r, fp, w, ?_⟩
  simp only [ev] at f
  cases e : (ev Phi a r).truth with
  | bad => rw [e] at f; exact f
  | ex c fs r1 => rw [e] at f; exact f
  | ok x r1 =>
    rw [e] at f
    intro H1 J1 fp1 w1 t
    have f1 := Fin.later t f
    cases x with
    | true => exact ⟨J1, r1, fp1, w1, f1⟩
    | false => exact f1 _ H1 J1 fp1 [] w1 ⟨rfl, .bl _⟩ (fun b z => nomatch z) (nil_step Step.refl)
theorem orV_read {a b : CE} {Q : V → Hp → Prop} (h : tEv G K W Phi (.or a b) sg H Q) : tOrV (tEv G K W Phi a) (tEv G K W Phi b) sg H Q := by
  obtain ⟨J, r, fp, w, f⟩ := h
  refine tr_ev (Q := fun b' H' => if b' = true then Q (.bl true) H' else tEv G K W Phi b sg H' Q) ⟨J, r, fp, w, ?_⟩
  simp only [ev] at f
  cases e : (ev Phi a r).truth with
  | bad => rw [e] at f; exact f
  | ex c fs r1 => rw [e] at f; exact f
  | ok x r1 =>
    rw [e] at f
    intro H1 J1 fp1 w1 t
    have f1 := Fin.later t f
    cases x with
    | false => exact ⟨J1, r1, fp1, w1, f1⟩
    | true => exact f1 _ H1 J1 fp1 [] w1 ⟨rfl, .bl _⟩ (fun b z => nomatch z) (nil_step Step.refl)
theorem chain_read {o p : Op} {a b c : CE} {Q : V → Hp → Prop} (h : tEv G K W Phi (.chain o p a b c) sg H Q) :
    tChain (rPrim2 K o) (rPrim2 K p) (tSh G K W Phi a) (tSh G K W Phi b) (tSh G K W Phi c) sg H Q := by
  obtain ⟨J, r, fp, w, f⟩ := h
  simp only [ev] at f
  refine ⟨J, r, fp, w, Fin.bindD f fun x r1 vx H1 J1 fp1 _ w1 qx t1 f1 => ⟨J1, r1, fp1, w1, Fin.bindD f1 fun y r2 vy H2 J2 fp2 _ w2 qy t2 f2 => ?_⟩⟩
  have vws : Vws K H2 J2 [vx, vy] [x, y] := .cons (.inl (shMono t2.js qx)) (.cons (.inl qy) .nil)
  cases ep : prim o [x, y] with
  | none => rw [ep] at f2; exact f2.elim
  | some s =>
    rw [ep] at f2
    refine ⟨J2, [x, y], s, w2.same, vws, ep, fun v H3 J3 g q n st sm => ?_⟩
    cases s with
    | non => exact f2.elim
    | lst ds => exact f2.elim
    | sh d =>
      obtain ⟨rfl, q⟩ := q
      have w3 : Wf K H3 J3 sg r2 fp2 := w2.step st sm fun _ _ z => z
      have t3 : Step (Own fp2) H2 J2 (Own fp2) H3 J3 := ⟨st.js, fun b o q _ => st.fr b o q id, fun b q => .inl q, fun b q => (st.jg b q).imp id fun z => z.imp False.elim id⟩
      cases q with
      | bl k =>
        refine ⟨k, rfl, ?_⟩
        cases k with
        | false =>
          rw [if_neg Bool.false_ne_true]
          exact (Fin.later t3 f2) _ H3 J3 fp2 [] w3 ⟨rfl, .bl _⟩ (fun b z => nomatch z) (nil_step Step.refl)
        | true =>
          rw [if_pos rfl]
          have f3 := Fin.later t3 f2
          refine ⟨J3, r2, fp2, w3, Fin.bindD f3 fun z r4 vz H4 J4 fp4 _ w4 qz t4 f4 => ?_⟩
          cases ep2 : prim p [y, z] with
          | none => rw [ep2] at f4; exact f4.elim
          | some s =>
            rw [ep2] at f4
            refine ⟨J4, [y, z], s, w4.same, .cons (.inl (shMono (st.js.trans t4.js) qy)) (.cons (.inl qz) .nil), ep2, fun v H5 J5 g q n st sm => ?_⟩
            refine f4 v H5 J5 fp4 g (w4.step st sm fun _ _ z => z) q (fun b z => ⟨(n b z).1, fun ⟨j, y⟩ => ?_⟩) ⟨st.js, fun b o q _ => st.fr b o q id, fun b q => ?_, fun b q => (st.jg b q).imp id fun z => z.imp False.elim id⟩
            · obtain ⟨_, o, ho⟩ := w4.jn j b y
              rw [(n b z).2] at ho; cases ho
            · rcases q with q | q
              · exact .inl q
              · exact (st.fn b q).imp False.elim id
      | _ => exact f2.elim
end
end Ev
end

section
set_option Elab.async false
set_option linter.all false
set_option maxRecDepth 100000
set_option maxHeartbeats 4000000
namespace Ev
open PySem L2

def isBO : Expr → Bool
  | .BoolOp _ _ _ => true
  | _ => false
def plainT : Expr → Bool
  | .UnaryOp .Not _ _ => false
  | .BoolOp _ _ _ => false
  | .IfExp _ _ _ _ => false
  | .Compare _ _ _ _ => false
  | _ => true
theorem plainT_ok {e : Expr} {env : Env} (h : plainT e = true) : ∀ whole, isTrue e env whole = (do let v ← whole; standAt e.pos; holding [v] (truthy v)) := by
  intro whole
  cases e <;> first | rfl | (simp [plainT] at h; done) | skip
  rename_i op x p
  cases op <;> first | rfl | (simp [plainT] at h)
section
variable {P : Prg} {N : List Str} {k : Nat} {Phi : Nat → Ro → FR}
/-- as a value, as a test, as a test within and / or -/
def Snd (P : Prg) (Phi : Nat → Ro → FR) (X : Cx) (W : WX) (c : CE) (e : Expr) : Prop :=
  PE X e (tEv P.errs X.K W Phi c) ∧ PT X e (tTr P.errs X.K W Phi c) ∧ (isBO e = true → PW X e (tTr P.errs X.K W Phi c))
theorem Snd.of {X : Cx} {W : WX} {c : CE} {e : Expr} (h : PE X e (tEv P.errs X.K W Phi c)) (hp : plainT e = true) : Snd P Phi X W c e := by
  refine ⟨h, PT.imp (pt_val h (plainT_ok hp)) fun sg H Q q => tr_ev q, fun z => ?_⟩
  cases e <;> simp [isBO] at z
  simp [plainT] at hp
theorem PW.imp {X : Cx} {e : Expr} {t t' : TT} (h : PW X e t) (i : ∀ sg H Q, t' sg H Q → t sg H Q) : PW X e t' := ⟨fun wh pins s sg H Q I q => h.run wh pins s sg H Q I (i sg H Q q)⟩
theorem isiForm_ok {sc : Scope} {o : Op} {x : Str} {a : Expr} {as l : List Expr} (h : isiForm sc o x a as = some l) : ∃ t, o = .isi t ∧ x = "isinstance" ∧ l = [a] ∧ isG sc "isinstance" = true ∧ isG sc (Str.ofString t) = true ∧ tyOk t = true ∧ ∃ p, as = [.Name (Str.ofString t) p] := by
  unfold isiForm at h
  split at h
  · rename_i t ht
    split at h
    · rename_i hc
      cases h
      simp only [Bool.and_eq_true, decide_eq_true_eq] at hc
      obtain ⟨⟨⟨⟨rfl, h2⟩, h3⟩, h4⟩, h5⟩ := hc
      refine ⟨t, ?_, rfl, rfl, h3, h4, h5, ?_⟩
      · cases o <;> first | (cases ht; rfl) | cases ht
      · match as, h2 with
        | [y], h2 =>
          simp only [List.map_cons, List.map_nil, List.cons.injEq, and_true] at h2
          cases y <;> simp only [nameOf] at h2 <;> first | (cases h2; exact ⟨_, rfl⟩) | cases h2
        | [], h2 => cases h2
        | _ :: _ :: _, h2 => simp at h2
    · cases h
  · cases h
theorem notSet {c : CE} {sc : Scope} {e : Expr} (h : okE P.tx N sc c e = true) : isSet e = false := by
  cases e <;> first | rfl | (cases c <;> simp [okE, opForm, mthd, badE] at h)
theorem notSetI {it : CI} {sc : Scope} {e : Expr} (h : okI P.tx N sc it e = true) : isSet e = false := by
  cases it with
  | seq c => simp only [okI] at h; exact notSet h
  | rng1 c => cases e <;> first | rfl | (simp [okI] at h)
  | rng2 c d => cases e <;> first | rfl | (simp [okI] at h)
theorem foldS {e : Expr} {env : Env} (h : isSet e = false) : ∀ x, foldedSetIterable e env x = pure x := by
  intro x
  cases e <;> first | rfl | (simp [isSet] at h)
theorem lastM {op op' : CmpOp} {b c : Expr} (h : isSet c = false) : lastMarks [op, op'] [b, c] = false := by
  show behindInMarks op' c = false
  exact noset h

theorem okI_rng1 {c : CE} {sc : Scope} {e : Expr} (h : okI P.tx N sc (.rng1 c) e = true) : ∃ p a pos, e = .Call (.Name "range" p) [a] [] pos ∧ isG sc "range" = true ∧ okE P.tx N sc c a = true := by
  unfold okI at h
  split at h <;> first | (rename_i q; cases q; done) | skip
  · rename_i x _ a _ q
    cases q
    simp only [Bool.and_eq_true, decide_eq_true_eq] at h
    obtain ⟨⟨rfl, h1⟩, h2⟩ := h
    exact ⟨_, a, _, rfl, h1, h2⟩
  · cases h
theorem okI_rng2 {c d : CE} {sc : Scope} {e : Expr} (h : okI P.tx N sc (.rng2 c d) e = true) : ∃ p a b pos, e = .Call (.Name "range" p) [a, b] [] pos ∧ isG sc "range" = true ∧ okE P.tx N sc c a = true ∧ okE P.tx N sc d b = true := by
  unfold okI at h
  split at h <;> first | (rename_i q; cases q; done) | skip
  · rename_i x _ a b _ q
    cases q
    simp only [Bool.and_eq_true, decide_eq_true_eq] at h
    obtain ⟨⟨⟨rfl, h1⟩, h2⟩, h3⟩ := h
    exact ⟨_, a, b, _, rfl, h1, h2, h3⟩
  · cases h

mutual
theorem sound : ∀ (c : CE) {X : Cx} {sc : Scope} {fb : Str → Bool} {W : WX} {e : Expr}, Good P N k Phi X sc fb → Takes X W → okE P.tx N sc c e = true → Snd P Phi X W c e
  | .var i, X, sc, fb, W, e, g, tk, h => by
    cases e <;> try simp only [okE, Bool.false_eq_true] at h
    exact Snd.of (soundVar g h) rfl
  | .ref i, X, sc, fb, W, e, g, tk, h => by
    cases e <;> try simp only [okE, Bool.false_eq_true] at h
    exact Snd.of (PE.imp (isV_ok g h) fun sg H Q ⟨J, r, fp, w, f⟩ => by simp only [ev] at f; exact f.elim) rfl
  | .own c, X, sc, fb, W, e, g, tk, h => by
    simp only [okE, Bool.and_eq_true] at h
    have s1 := sound c g tk h.1
    exact ⟨PE.imp s1.1 fun sg H Q ⟨J, r, fp, w, f⟩ => by simp only [ev] at f; exact f.elim, PT.imp s1.2.1 fun sg H Q ⟨J, r, fp, w, f⟩ => by simp only [ev] at f; exact f.elim, fun z => PW.imp (s1.2.2 z) fun sg H Q ⟨J, r, fp, w, f⟩ => by simp only [ev] at f; exact f.elim⟩
  | .pop i c, X, sc, fb, W, e, g, tk, h => by
    simp only [okE] at h
    split at h
    · rename_i x hx
      obtain ⟨y, p, ap, cp, rfl, hv, hs, hl⟩ := mthd_ok hx
      have he := PE.sh (sound c g tk h).1
      refine Snd.of (PE.imp (meth_list g PySem.F.slot_list_pop PySem.F.type_list_pop mt_popAt' hv hs hl he) fun sg H Q ⟨J, r, fp, w, f⟩ => ?_) rfl
      simp only [ev] at f
      split at f
      · rename_i ds0 ed0
        obtain ⟨v, hv, a, xs0, rfl, hg0, ha0, hd0⟩ := w.rep i _ ed0 (fun z => nomatch z)
        refine ⟨_, hv, .inl ⟨rfl, xs0, .of ha0⟩, J, r, fp, w, Fin.bindD f fun d r1 v1 H1 J1 fp1 ee w1 q t1 f1 => ?_⟩
        clear ee
        split at f1
        · rename_i n ds ed
          obtain ⟨v', hv', a', xs, e1, hg, ha, hd⟩ := w1.rep i _ ed (fun z => nomatch z)
          rw [hv] at hv'
          cases hv'
          cases e1
          cases q
          have mem : a ∈ fp1 i := by rw [hg]; exact List.mem_singleton.mpr rfl
          have hi : i < r1.length := (List.getElem?_eq_some_iff.mp ed).1
          have jn := (w1.jn i a mem).1
          split at f1
          · rename_i j hj
            split at f1
            · rename_i y hy
              obtain ⟨vy, hvy, hsy⟩ := shsGet hd hy
              refine ⟨a, xs, n, j, vy, rfl, rfl, ha, by rw [shsLen hd]; exact hj, hvy, ?_⟩
              have w2 : Wf X.K (upd H1 a (.lst (xs.eraseIdx j))) J1 sg (r1.set i .non) (fpSet fp1 i []) := (w1.drop i).step (step_upd (D := a)) (same_updN w1.same jn) fun b z y => own_wipe_ne w1 mem (by rw [← y]; exact z)
              have w3 := w2.putKeep (i := i) (s := .lst (ds.eraseIdx j)) (v := .ref a) (g := [a]) (by rw [List.length_set]; exact hi) hv ⟨a, _, rfl, rfl, upd_same, shsErase j hd⟩ fun b z => by
                cases List.mem_singleton.mp z
                exact ⟨jn, fun k hk y => own_wipe_ne w1 mem ⟨k, y⟩⟩
              rw [List.set_set] at w3
              refine f1 vy _ J1 _ [] w3 ⟨rfl, hsy⟩ (fun b z => nomatch z) (nil_step ⟨Same.refl _, fun b o q nb => ?_, fun b q => ?_, fun b q => .inl q⟩)
              · rw [upd_ne fun z => nb (by rw [z]; exact ⟨i, mem⟩)]
                exact q
              · rcases own_set q with z | z
                · cases List.mem_singleton.mp z; exact .inl ⟨i, mem⟩
                · exact .inl (own_wipe z)
            · exact f1.elim
          · exact f1.elim
        · exact f1.elim
      · exact f.elim
    · cases h
  | .cst d, X, sc, fb, W, e, g, tk, h => by
    cases e <;> try simp only [okE, Bool.false_eq_true] at h
    rename_i c kk p
    refine Snd.of ?_ rfl
    cases c <;> cases d <;> simp only [cstIs, Bool.false_eq_true] at h
    · exact PE.imp pe_non fun sg H Q ⟨J, r, fp, w, f⟩ => f .non H J fp [] w ⟨rfl, .non⟩ (fun b z => nomatch z) (nil_step Step.refl)
    · rename_i a b
      have h : a = b := by simpa using h
      subst h
      exact PE.imp pe_bl fun sg H Q ⟨J, r, fp, w, f⟩ => f (.bl a) H J fp [] w ⟨rfl, .bl a⟩ (fun b z => nomatch z) (nil_step Step.refl)
    · rename_i a b
      have h : a = b := of_decide_eq_true h
      subst h
      exact PE.imp pe_int fun sg H Q ⟨J, r, fp, w, f⟩ => f (.int a) H J fp [] w ⟨rfl, .int a⟩ (fun b z => nomatch z) (nil_step Step.refl)
    · rename_i a b
      have h : a = b := of_decide_eq_true h
      subst h
      exact PE.imp pe_str fun sg H Q ⟨J, r, fp, w, f⟩ => f (.str a) H J fp [] w ⟨rfl, .str a⟩ (fun b z => nomatch z) (nil_step Step.refl)
  | .glob y d, X, sc, fb, W, e, g, tk, h => by
    cases e <;> try simp only [okE, Bool.false_eq_true] at h
    rename_i x p
    refine Snd.of ?_ rfl
    simp only [Bool.and_eq_true, decide_eq_true_eq] at h
    obtain ⟨⟨rfl, hg⟩, hc⟩ := h
    obtain ⟨h1, h2⟩ := isG_ok g hg
    split at hc
    · rename_i j hj
      obtain ⟨u, hu, t, rfl⟩ := g.csts _ _ hj
      cases d <;> simp only [cstIs, Bool.false_eq_true] at hc
      have hc := of_decide_eq_true hc
      subst hc
      exact PE.imp (pe_glob (v := .int j) h1 hu ⟨t, rfl⟩ h2) fun sg H Q ⟨J, r, fp, w, f⟩ => f (.int j) H J fp [] w ⟨rfl, .int j⟩ (fun b z => nomatch z) (nil_step Step.refl)
    · rename_i j hj
      obtain ⟨u, hu, t, rfl⟩ := g.csts _ _ hj
      cases d <;> simp only [cstIs, Bool.false_eq_true] at hc
      have hc := of_decide_eq_true hc
      subst hc
      exact PE.imp (pe_glob (v := .str j) h1 hu ⟨t, rfl⟩ h2) fun sg H Q ⟨J, r, fp, w, f⟩ => f (.str j) H J fp [] w ⟨rfl, .str j⟩ (fun b z => nomatch z) (nil_step Step.refl)
    · cases hc
  | .tup es, X, sc, fb, W, e, g, tk, h => by
    cases e <;> try simp only [okE, Bool.false_eq_true] at h
    simp only [Bool.and_eq_true, decide_eq_true_eq] at h
    obtain ⟨_, _, pa⟩ := soundEs es g tk h.1
    refine Snd.of (PE.imp (pe_tup pa) fun sg H Q ⟨J, r, fp, w, f⟩ => ?_) rfl
    simp only [ev] at f
    refine disp_read w ?_
    cases e : evs Phi es r with
    | bad => rw [e] at f; exact f
    | ex c fs r1 => rw [e] at f; exact f
    | ok ds r1 =>
      rw [e] at f
      intro vs H1 J1 fp1 w1 q hl t1
      refine ⟨by rw [hl, sizeLine_eq]; omega, fun p hp => ?_⟩
      have t2 : Step (Own fp1) H1 J1 (Own fp1) (upd H1 p (.tup vs)) (upd J1 p (.tup vs)) := step_new w1.same hp
      exact f (.ref p) _ (upd J1 p (.tup vs)) fp1 [] (w1.new hp) ⟨rfl, .tup upd_same (shsMono t2.js q)⟩ (fun b z => nomatch z) (nil_step (t1.trans t2))
  | .lst es, X, sc, fb, W, e, g, tk, h => by
    cases e <;> try simp only [okE, Bool.false_eq_true] at h
    simp only [Bool.and_eq_true, decide_eq_true_eq] at h
    obtain ⟨_, _, pa⟩ := soundEs es g tk h.1
    refine Snd.of (PE.imp (pe_lst pa) fun sg H Q ⟨J, r, fp, w, f⟩ => ?_) rfl
    simp only [ev] at f
    refine disp_read w ?_
    cases e : evs Phi es r with
    | bad => rw [e] at f; exact f
    | ex c fs r1 => rw [e] at f; exact f
    | ok ds r1 =>
      rw [e] at f
      intro vs H1 J1 fp1 w1 q hl t1
      refine ⟨by rw [hl, sizeLine_eq]; omega, fun p hp => ?_⟩
      have jp : J1 p = none := by
        cases e : J1 p with
        | none => rfl
        | some o => rw [w1.same _ _ e] at hp; cases hp
      refine f (.ref p) _ J1 fp1 [p] (w1.newOwn hp) ⟨p, vs, rfl, rfl, upd_same, q⟩ (fun b z => ?_) (t1.trans ((step_own hp).weak fun b z => z.imp id List.mem_singleton.mp))
      cases List.mem_singleton.mp z
      refine ⟨jp, fun ⟨j, y⟩ => ?_⟩
      obtain ⟨_, o, ho⟩ := w1.jn j _ y
      rw [hp] at ho; cases ho
  | .not a, X, sc, fb, W, e, g, tk, h => by
    cases e <;> try simp only [okE, Bool.false_eq_true] at h
    rename_i op x p
    cases op <;> try simp only [okE, Bool.false_eq_true] at h
    obtain ⟨s1, s2, s3⟩ := sound a g tk h
    exact ⟨PE.imp (pe_not s1) fun sg H Q q => notV_read q, PT.imp (pt_not s2) fun sg H Q q => not_read q, fun z => by simp [isBO] at z⟩
  | .and a b, X, sc, fb, W, e, g, tk, h => by
    cases e <;> try simp only [okE, Bool.false_eq_true] at h
    rename_i op l p
    cases op with
    | Or => simp only [okE, Bool.false_eq_true] at h
    | And =>
      match l, h with
      | [], h => simp only [okE, Bool.false_eq_true] at h
      | [_], h => simp only [okE, Bool.false_eq_true] at h
      | [x, y], h =>
        simp only [okE, Bool.and_eq_true] at h
        obtain ⟨a1, a2, a3⟩ := sound a g tk h.1
        obtain ⟨b1, b2, b3⟩ := sound b g tk h.2
        have w : PW X (.BoolOp .And [x, y] p) (tTr P.errs X.K W Phi (.and a b)) := PW.imp (pw_and a2 (pw_and1 b2)) fun sg H Q q => and_read q
        exact ⟨PE.imp (pe_and a1 (pe_one b1)) fun sg H Q q => andV_read q, w.pt, fun _ => w⟩
      | x :: y :: z :: l, h =>
        simp only [okE, Bool.and_eq_true] at h
        obtain ⟨a1, a2, a3⟩ := sound a g tk h.1
        obtain ⟨b1, b2, b3⟩ := sound b g tk h.2
        have w : PW X (.BoolOp .And (x :: y :: z :: l) p) (tTr P.errs X.K W Phi (.and a b)) := PW.imp (pw_and a2 (b3 rfl)) fun sg H Q q => and_read q
        exact ⟨PE.imp (pe_and a1 b1) fun sg H Q q => andV_read q, w.pt, fun _ => w⟩
  | .or a b, X, sc, fb, W, e, g, tk, h => by
    cases e <;> try simp only [okE, Bool.false_eq_true] at h
    rename_i op l p
    cases op with
    | And => simp only [okE, Bool.false_eq_true] at h
    | Or =>
      match l, h with
      | [], h => simp only [okE, Bool.false_eq_true] at h
      | [_], h => simp only [okE, Bool.false_eq_true] at h
      | [x, y], h =>
        simp only [okE, Bool.and_eq_true] at h
        obtain ⟨a1, a2, a3⟩ := sound a g tk h.1
        obtain ⟨b1, b2, b3⟩ := sound b g tk h.2
        have w : PW X (.BoolOp .Or [x, y] p) (tTr P.errs X.K W Phi (.or a b)) := PW.imp (pw_or a2 (pw_or1 b2)) fun sg H Q q => or_read q
        exact ⟨PE.imp (pe_or a1 (pe_one b1)) fun sg H Q q => orV_read q, w.pt, fun _ => w⟩
      | x :: y :: z :: l, h =>
        simp only [okE, Bool.and_eq_true] at h
        obtain ⟨a1, a2, a3⟩ := sound a g tk h.1
        obtain ⟨b1, b2, b3⟩ := sound b g tk h.2
        have w : PW X (.BoolOp .Or (x :: y :: z :: l) p) (tTr P.errs X.K W Phi (.or a b)) := PW.imp (pw_or a2 (b3 rfl)) fun sg H Q q => or_read q
        exact ⟨PE.imp (pe_or a1 b1) fun sg H Q q => orV_read q, w.pt, fun _ => w⟩
  | .chain o p a b c, X, sc, fb, W, e, g, tk, h => by
    cases e <;> try simp only [okE, Bool.false_eq_true] at h
    rename_i x ops es pos
    match ops, es, h with
    | [o1, o2], [y, z], h =>
      simp only [okE, Bool.and_eq_true, decide_eq_true_eq, Bool.not_eq_true'] at h
      obtain ⟨⟨⟨⟨⟨⟨h1, h2⟩, h3⟩, h4⟩, h5⟩, h6⟩, h7⟩ := h
      have pa := PE.sh (sound a g tk h5).1
      have pb := PE.sh (sound b g tk h6).1
      have pc := PE.sh (sound c g tk h7).1
      have c1 := cmp_ok g h1
      have c2 := cmp_ok g h2
      refine ⟨PE.imp (pe_chain c1 c2 pa pb pc (lastM h3)) fun sg H Q q => chain_read q, PT.imp (pt_chain c1 c2 pa pb pc (lastM h3)) fun sg H Q q => chain_read (tr_ev q), fun z => by simp [isBO] at z⟩
    | [], _, h => simp only [okE, Bool.false_eq_true] at h
    | [_], _, h => simp only [okE, Bool.false_eq_true] at h
    | [_, _], [], h => simp only [okE, Bool.false_eq_true] at h
    | [_, _], [_], h => simp only [okE, Bool.false_eq_true] at h
    | [_, _], _ :: _ :: _ :: _, h => simp only [okE, Bool.false_eq_true] at h
    | _ :: _ :: _ :: _, _, h => simp only [okE, Bool.false_eq_true] at h
  | .op o .nil, X, sc, fb, W, e, g, tk, h => by
    simp only [okE] at h
    split at h
    · rename_i l hl
      cases l with
      | cons a as => simp [okEs] at h
      | nil =>
        unfold opForm at hl
        split at hl <;> first | (split at hl <;> first | (cases hl; done) | (obtain ⟨t, _, _, hz, _⟩ := isiForm_ok hl; cases hz; done) | (split at hl <;> cases hl; done)) | cases hl
    · cases h
  | .op o (.cons a .nil), X, sc, fb, W, e, g, tk, h => by
    simp only [okE] at h
    split at h
    · rename_i l hl
      match l, h with
      | [], h => simp [okEs] at h
      | [x], h =>
        simp only [okEs, Bool.and_eq_true] at h
        obtain ⟨h, _⟩ := h
        have s1 := sound a g tk h
        have o1 := PE.opd g h s1.1
        unfold opForm at hl
        split at hl
        · split at hl <;> cases hl
        · split at hl <;> cases hl
        · split at hl
          · rename_i ho
            cases hl
            cases ho
            exact Snd.of (PE.imp (pe_un pm_neg o1) fun sg H Q q => op_read q) rfl
          · cases hl
        · split at hl <;> cases hl
        · split at hl
          · rename_i hio
            obtain ⟨t, rfl, rfl, hz, hg1, hg2, hty, p2, rfl⟩ := isiForm_ok hl
            cases hz
            exact Snd.of (PE.imp (isi_ok g hg1 hg2 hty o1 (okE_star h)) fun sg H Q q => op_readR (RR := fun vs H2 => rIsiP X.K t (vs ++ [.ty t]) H2 Q) q fun vs H2 ⟨J, ds, s, sm, vw, hp, pq⟩ => by
              have hp' : pIsi t ds = some s := hp
              unfold pIsi at hp'
              split at hp'
              · obtain ⟨v, rfl, a⟩ := vw.one
                exact ⟨v, rfl, J, _, s, sm, vw, hp, pq⟩
              · cases hp') rfl
          · split at hl
            · rename_i hb
              cases hl
              simp only [Bool.and_eq_true, decide_eq_true_eq] at hb
              have pa : PA X [x] (seqOpd P.errs X.K W (rd1 Phi) (.cons a .nil)) := pa_cons o1 pa_nil (star_ok (okE_star h))
              refine Snd.of (PE.imp (bname_ok g hb.1 hb.2 pa fun y q => ?_) fun sg H Q q => op_read q) rfl
              cases List.mem_singleton.mp q
              exact okE_star h
            · cases hl
        · cases hl
      | _ :: _ :: _, h => simp [okEs] at h
    · cases h
  | .op o (.cons a (.cons b cs)), X, sc, fb, W, e, g, tk, h => by
    simp only [okE] at h
    split at h
    · rename_i l hl
      match l, h with
      | [], h => simp [okEs] at h
      | [_], h => simp [okEs] at h
      | x :: y :: l, h =>
        have hs := okEs_star h
        simp only [okEs, Bool.and_eq_true] at h
        obtain ⟨ha, hb, hc⟩ := h
        have sa := sound a g tk ha
        have sb := sound b g tk hb
        have oa := PE.opd g ha sa.1
        have ob := PE.opd g hb sb.1
        have pr : PA X (x :: y :: l) (seqOpd P.errs X.K W (rd1 Phi) (.cons a (.cons b cs))) := pa_cons oa (pa_cons ob (soundEs cs g tk hc).1 (star_ok (okE_star hb))) (star_ok (okE_star ha))
        unfold opForm at hl
        split at hl
        · split at hl
          · rename_i hbo
            cases hl
            cases cs with
            | cons _ _ => simp [okEs] at hc
            | nil => exact Snd.of (PE.imp (pe_op (bin_ok hbo) oa ob) fun sg H Q q => op_read q) rfl
          · cases hl
        · split at hl
          · rename_i hcm
            cases hl
            simp only [Bool.and_eq_true, decide_eq_true_eq, Bool.not_eq_true'] at hcm
            cases cs with
            | cons _ _ => simp [okEs] at hc
            | nil =>
              have c1 := cmp_ok g hcm.1
              exact ⟨PE.imp (pe_cmpR c1 oa ob (noset hcm.2)) fun sg H Q q => op_read q, PT.imp (pt_cmpR c1 oa ob (noset hcm.2)) fun sg H Q q => op_read (tr_ev q), fun z => by simp [isBO] at z⟩
          · cases hl
        · split at hl <;> cases hl
        · split at hl
          · rename_i hit
            cases hl
            simp only [Bool.and_eq_true, decide_eq_true_eq, Bool.not_eq_true'] at hit
            obtain ⟨rfl, hsl⟩ := hit
            cases cs with
            | cons _ _ => simp [okEs] at hc
            | nil =>
              refine Snd.of (PE.imp (pe_ix pm_item oa ob fun _ _ => ?_) fun sg H Q q => op_read q) rfl
              cases y <;> first | rfl | (simp [isSlice] at hsl)
          · cases hl
        · split at hl
          · obtain ⟨t, _, _, hz, _⟩ := isiForm_ok hl
            cases hz
          · split at hl
            · rename_i hbn
              cases hl
              simp only [Bool.and_eq_true, decide_eq_true_eq] at hbn
              exact Snd.of (PE.imp (bname_ok g hbn.1 hbn.2 pr hs) fun sg H Q q => op_read q) rfl
            · cases hl
        · cases hl
    · cases h
  | .lc elt tg it cond own, X, sc, fb, W, e, g, tk, h => by
    cases e <;> try simp only [okE, Bool.false_eq_true] at h
    rename_i e gs scope pos
    match gs, h with
    | [], h => simp only [okE, Bool.false_eq_true] at h
    | _ :: _ :: _, h => simp only [okE, Bool.false_eq_true] at h
    | [⟨t, i, ifs, a⟩], h =>
      by_cases ha : a = 0
      · subst ha
        simp only [okE, Bool.and_eq_true] at h
        obtain ⟨⟨⟨⟨⟨h1, h2⟩, h3⟩, h4⟩, h5⟩, h6⟩ := h
        have bk := blkOk_by h1
        have hso : ∀ j ∈ slotsT tg, j ∈ own.map (·.2) := fun j q => of_decide_eq_true (List.all_eq_true.mp h6 j q)
        refine Snd.of (PE.imp (pe_lc (own := own) g.calm (by rw [g.hN]; exact g.nd) (soundI it g tk h3) (by rw [g.hN, g.hsc]; exact bk) (fun s H C cl fp => soundT (g.blk bk.kind) h2) (fun s H C cl fp => soundC cond (g.blk bk.kind) takes0 h4)
          (fun s H C cl fp => PE.sh (sound elt (g.blk bk.kind) takes0 h5).1) (foldS (notSetI h3))) fun sg H Q q => lc_read hso q) rfl
      · exfalso
        have : okE P.tx N sc (.lc elt tg it cond own) (.ListComp e [⟨t, i, ifs, a⟩] scope pos) = false := by
          unfold okE
          split <;> first | rfl | (rename_i q; simp_all)
        rw [this] at h
        cases h
  | .call f .nil, X, sc, fb, W, e, g, tk, h => by
    cases e <;> try simp only [okE, Bool.false_eq_true] at h
    rename_i fn as kws pos
    cases fn <;> try simp only [okE, Bool.false_eq_true] at h
    rename_i x p
    cases as with
    | cons a as =>
      cases kws <;> simp [okE, okEs] at h
    | nil =>
      cases kws <;> try simp only [okE, Bool.false_eq_true] at h
      simp only [Bool.and_eq_true, decide_eq_true_eq] at h
      obtain ⟨h1, h2⟩ := h
      obtain ⟨fa, fd, ps, F, hm, hk, hb⟩ := g.fns f x h1
      obtain ⟨g1, g2⟩ := isG_ok g h2
      exact Snd.of (PE.imp (pe_callS0 F g.room g1 hm hk hb (fun sg => passAt tk sg) g2) fun sg H Q q => call_read q) rfl
  | .call f (.cons c cs), X, sc, fb, W, e, g, tk, h => by
    cases e <;> try simp only [okE, Bool.false_eq_true] at h
    rename_i fn as kws pos
    cases fn <;> try simp only [okE, Bool.false_eq_true] at h
    rename_i x p
    cases as <;> try simp only [okE, Bool.false_eq_true] at h
    rename_i a as
    cases kws <;> try simp only [okE, Bool.false_eq_true] at h
    simp only [Bool.and_eq_true, decide_eq_true_eq] at h
    obtain ⟨⟨h1, h2⟩, h3⟩ := h
    have hs := okEs_star h3
    simp only [okEs, Bool.and_eq_true] at h3
    have oa := PE.arg g h3.1 (sound c g tk h3.1).1 (fun c' e => by subst e; simp only [okE, Bool.and_eq_true] at h3; exact PE.own (sound c' g tk h3.1.1).1)
    have pr : PA X (a :: as) (seqOpd P.errs X.K W (ar1 Phi) (.cons c cs)) := pa_cons oa (soundEs cs g tk h3.2).2.1 (star_ok (okE_star h3.1))
    obtain ⟨fa, fd, ps, F, hm, hk, hb⟩ := g.fns f x h1
    obtain ⟨g1, g2⟩ := isG_ok g h2
    exact Snd.of (PE.imp (pe_callS F g.room g1 hm hk hb (fun sg => passAt tk sg) pr g2 (star_ok (hs a (List.mem_cons_self ..))) (plain_ok fun y q => hs y (List.mem_cons_of_mem _ q))) fun sg H Q q => call_read q) rfl
termination_by c => sizeOf c
theorem soundEs : ∀ (cs : CEs) {X : Cx} {sc : Scope} {fb : Str → Bool} {W : WX} {l : List Expr}, Good P N k Phi X sc fb → Takes X W → okEs P.tx N sc cs l = true →
    PA X l (seqOpd P.errs X.K W (rd1 Phi) cs) ∧ PA X l (seqOpd P.errs X.K W (ar1 Phi) cs) ∧ PA X l (seqOpd P.errs X.K W (it1 Phi) cs)
  | .nil, X, sc, fb, W, l, g, tk, h => by
    cases l with
    | nil => exact ⟨pa_nil, pa_nil, pa_nil⟩
    | cons a as => simp [okEs] at h
  | .cons c cs, X, sc, fb, W, l, g, tk, h => by
    cases l with
    | nil => simp [okEs] at h
    | cons a as =>
      simp only [okEs, Bool.and_eq_true] at h
      have s1 := (sound c g tk h.1).1
      obtain ⟨p1, p2, p3⟩ := soundEs cs g tk h.2
      have st := star_ok (env := X.env) (es := as) (okE_star h.1)
      exact ⟨pa_cons (PE.opd g h.1 s1) p1 st, pa_cons (PE.arg g h.1 s1 (fun c' e => by subst e; simp only [okE, Bool.and_eq_true] at h; exact PE.own (sound c' g tk h.1.1).1)) p2 st, pa_cons (PE.itm s1) p3 st⟩
termination_by cs => sizeOf cs
theorem soundC : ∀ (cs : CEs) {X : Cx} {sc : Scope} {fb : Str → Bool} {W : WX} {l : List Expr}, Good P N k Phi X sc fb → Takes X W → okEs P.tx N sc cs l = true → PTs X l (tCs P.errs X.K W Phi cs)
  | .nil, X, sc, fb, W, l, g, tk, h => by
    cases l with
    | nil => exact ⟨fun pins s sg H Q I ⟨J, r, fp, w, f⟩ => (pts_nil (X := X)).run pins s sg H Q I (f H J fp w Step.refl)⟩
    | cons a as => simp [okEs] at h
  | .cons c .nil, X, sc, fb, W, l, g, tk, h => by
    cases l with
    | nil => simp [okEs] at h
    | cons a as =>
      cases as with
      | cons _ _ => simp [okEs] at h
      | nil =>
        simp only [okEs, Bool.and_eq_true] at h
        exact pts_one (PT.imp (sound c g tk h.1).2.1 fun sg H Q ⟨J, r, fp, w, f⟩ => ⟨J, r, fp, w, f⟩)
  | .cons c (.cons d cs), X, sc, fb, W, l, g, tk, h => by
    cases l with
    | nil => simp [okEs] at h
    | cons a as =>
      cases as with
      | nil => simp [okEs] at h
      | cons b as => exact ⟨fun pins s sg H Q I ⟨J, r, fp, w, f⟩ => f.elim⟩
termination_by cs => sizeOf cs
theorem soundI : ∀ (it : CI) {X : Cx} {sc : Scope} {fb : Str → Bool} {W : WX} {tg e : Expr}, Good P N k Phi X sc fb → Takes X W → okI P.tx N sc it e = true → PI X tg e (tI P.errs X.K W Phi it)
  | .seq c, X, sc, fb, W, tg, e, g, tk, h => by
    simp only [okI] at h
    have s1 := (sound c g tk h).1
    have gen : (∀ r, evI Phi (.seq c) r = (ev Phi c r).sh.bind fun d r1 => seqI d [] r1) → PI X tg e (tI P.errs X.K W Phi (.seq c)) := fun e1 =>
      PI.imp (pi_seq (PE.sh s1)) fun sg H Q ⟨J, r, fp, w, f⟩ => by
        rw [e1] at f
        exact ⟨J, r, fp, w, FinI.bindD f fun d r1 v H1 J1 fp1 _ w1 q f1 => seq_sh w1 q f1⟩
    cases c with
    | var i =>
      cases e <;> try simp only [okE, Bool.false_eq_true] at h
      refine PI.imp (pi_seq (isV_ok g h)) fun sg H Q ⟨J, r, fp, w, f⟩ => ?_
      simp only [evI, getL] at f
      split at f
      · rename_i d e
        obtain ⟨v, hv, q⟩ := w.rep i _ e (fun z => nomatch z)
        have q := q.2
        refine ⟨v, hv, ?_⟩
        simp only [R.ok_bind] at f
        cases q with
        | lst h1 h2 =>
          rename_i a xs ds
          refine .inl ⟨a, xs, rfl, .of (w.same _ _ h1), fun hl => ?_⟩
          exact f (Itl X.K a) (fun _ J => J a = some (.lst xs) ∧ ShAll X.K J xs ds) H J fp [] [(.none, none)] [.non] w (walks_list fun H J sm s => ⟨.of (sm _ _ s.1), s.2⟩) ⟨h1, h2⟩ (keeps_J fun J J' js s => ⟨js _ _ s.1, shsMono js s.2⟩) (.cons (g := []) (gs := []) ⟨rfl, .non⟩ (fun b z => nomatch z) .nil) rfl (by rw [← shsLen h2]; exact hl) (nil_step Step.refl)
        | tup h1 h2 =>
          rename_i a xs ds
          refine .inr ⟨a, xs, rfl, .of (w.same _ _ h1), fun hl => ?_⟩
          exact f (Itt X.K a) (fun _ J => J a = some (.tup xs) ∧ ShAll X.K J xs ds) H J fp [] [(.none, none)] [.non] w (walks_tup fun H J sm s => ⟨.of (sm _ _ s.1), s.2⟩) ⟨h1, h2⟩ (keeps_J fun J J' js s => ⟨js _ _ s.1, shsMono js s.2⟩) (.cons (g := []) (gs := []) ⟨rfl, .non⟩ (fun b z => nomatch z) .nil) rfl (by rw [← shsLen h2]; exact hl) (nil_step Step.refl)
        | non => exact f.elim
        | bl => exact f.elim
        | int => exact f.elim
        | str => exact f.elim
        | scr => exact f.elim
      · rename_i ds e
        obtain ⟨v, hv, q⟩ := w.rep i _ e (fun z => nomatch z)
        obtain ⟨a, xs, rfl, hg, ha, hd⟩ := q
        refine ⟨_, hv, .inl ⟨a, xs, rfl, .of ha, fun hl => ?_⟩⟩
        simp only [R.ok_bind] at f
        refine f (Itl X.K a) (fun H J => H a = some (.lst xs) ∧ ShAll X.K J xs ds) H J (fpSet fp i []) (fp i ++ []) [(.list ds, some (some i, .lst ds))] [.ref a] (w.drop i) (walks_list fun H J sm s => ⟨.of s.1, s.2⟩) ⟨ha, hd⟩ ?_ (.cons (g := fp i) (gs := []) ⟨rfl, ⟨a, xs, rfl, hg, ha, hd⟩, (fun j e => by cases e; exact hv), fun b z => ⟨(w.jn i b z).1, own_wipe_ne w z⟩⟩ (fun b _ z => nomatch z) .nil) rfl (by rw [← shsLen hd]; exact hl) (Step.refl.weak fun b z => z.elim own_wipe fun z => ⟨i, by simpa using z⟩)
        intro F F' H J H' J' s t n
        exact ⟨t.fr a _ s.1 (n a (by rw [hg]; simp)), shsMono t.js s.2⟩
      · exact f.elim
    | _ => exact gen fun r => by simp only [evI]
  | .rng1 c, X, sc, fb, W, tg, e, g, tk, h => by
    obtain ⟨p, a, pos, rfl, hg, hc⟩ := okI_rng1 h
    obtain ⟨g1, g2⟩ := isG_ok g hg
    have s1 := PE.sh (sound c g tk hc).1
    have st := star_ok (env := X.env) (es := []) (okE_star hc)
    refine PI.imp (pi_range1 g1 (g.blt _ (by simp [bnames])) (pa_cons s1 pa_nil st) st) fun sg H Q ⟨J, r, fp, w, f⟩ => ?_
    simp only [evI] at f
    refine ⟨J, r, fp, w, FinI.bindD f fun d r1 v H1 J1 fp1 _ w1 q f1 => ?_⟩
    cases q with
    | int n =>
      simp only at f1
      split at f1
      · rename_i hn
        simp only [in62, Bool.and_eq_true, decide_eq_true_eq] at hn
        exact ⟨n, rfl, hn.1.1, hn.1.2, f1 _ _ H1 J1 fp1 [] [] [] w1 walks_rng trivial (fun _ _ _ _ _ _ _ _ _ => trivial) .nil rfl (by rw [rngL_len, sizeLine_eq]; exact of_decide_eq_true hn.2) (nil_step Step.refl)⟩
      · exact f1.elim
    | _ => exact f1.elim
  | .rng2 c d, X, sc, fb, W, tg, e, g, tk, h => by
    obtain ⟨p, a, b, pos, rfl, hg, hc, hd⟩ := okI_rng2 h
    obtain ⟨g1, g2⟩ := isG_ok g hg
    have s1 := PE.sh (sound c g tk hc).1
    have s2 := PE.sh (sound d g tk hd).1
    have st := star_ok (env := X.env) (es := [b]) (okE_star hc)
    have st2 := star_ok (env := X.env) (es := []) (okE_star hd)
    refine PI.imp (pi_range2 g1 (g.blt _ (by simp [bnames])) (pa_cons s1 (pa_cons s2 pa_nil st2) st) (by rw [st, st2]; rfl) st2) fun sg H Q ⟨J, r, fp, w, f⟩ => ?_
    simp only [evI] at f
    refine ⟨J, r, fp, w, FinI.bindD f fun d r1 v H1 J1 fp1 _ w1 q f1 => ⟨J1, r1, fp1, w1, FinI.bindD f1 fun d2 r2 v2 H2 J2 fp2 _ w2 q2 f2 => ?_⟩⟩
    cases q with
    | int m =>
      cases q2 with
      | int n =>
        simp only at f2
        split at f2
        · rename_i hn
          simp only [in62, Bool.and_eq_true, decide_eq_true_eq] at hn
          exact ⟨m, n, rfl, ⟨hn.1.1.1, hn.1.1.2, hn.1.2.1, hn.1.2.2⟩, f2 _ _ H2 J2 fp2 [] [] [] w2 walks_rng trivial (fun _ _ _ _ _ _ _ _ _ => trivial) .nil rfl (by rw [rngL_len, sizeLine_eq]; exact of_decide_eq_true hn.2) (nil_step Step.refl)⟩
        · exact f2.elim
      | _ => exact f2.elim
    | _ => cases q2 <;> exact f2.elim
termination_by it => sizeOf it
end
end
end Ev
end

section
set_option Elab.async false
set_option linter.all false
set_option maxRecDepth 100000
set_option maxHeartbeats 4000000
namespace Ev
open PySem L2

section
variable (G : Errs) (K : PySem.W.Frag) (W : WX) (fu : Nat) (Phi : Nat → Ro → FR)
/-- how a statement may end; vs: the slots that it may store to -/
def FinS (vs : List Nat) (sg : St) (H J : Hp) (fp : Nat → List Addr) (x : R Fl) (D : Ends) : Prop := match x with
  | .ok .nx r' => ∀ sg' H' J' fp', Wf K H' J' sg' r' fp' → Agree vs sg sg' → Step (Own fp) H J (Own fp') H' J' → D.nx sg' H'
  | .ok (.ret s) r' => ∀ v sg' H' J' fp' g, Wf K H' J' sg' r' fp' → Agree vs sg sg' → RepS K H' J' s v g → (∀ b ∈ g, J' b = none ∧ ¬ Own fp' b) → Step (Own fp) H J (fun b => Own fp' b ∨ b ∈ g) H' J' → D.rt v H'
  | .ex c fs r' => ∀ sg' H' J' fp' cls d, Wf K H' J' sg' r' fp' → Agree vs sg sg' → XRep G K H' J' c fs cls d → Step (Own fp) H J (Own fp') H' J' → W cls d sg' H'
  | .bad => False
def tS (vs : List Nat) (c : CS) : TS := fun D sg H => ∃ J r fp, Wf K H J sg r fp ∧ FinS G K W vs sg H J fp (ex fu Phi c r) D
def tSs (vs : List Nat) (c : CSs) : TS := fun D sg H => ∃ J r fp, Wf K H J sg r fp ∧ FinS G K W vs sg H J fp (exs fu Phi c r) D
end
section
variable {G : Errs} {K : PySem.W.Frag} {W : WX} {fu : Nat} {Phi : Nat → Ro → FR} {vs ws : List Nat} {sg sg1 : St} {H J H1 J1 : Hp} {fp fp1 : Nat → List Addr} {D : Ends}
theorem FinS.later {x : R Fl} (a : Agree vs sg sg1) (s : Step (Own fp) H J (Own fp1) H1 J1) (h : FinS G K W vs sg H J fp x D) : FinS G K W vs sg1 H1 J1 fp1 x D := by
  cases x with
  | ok f r =>
    cases f with
    | nx => exact fun sg' H' J' fp' w q t => h sg' H' J' fp' w (a.trans q) (s.trans t)
    | ret z => exact fun v sg' H' J' fp' g w q r n t => h v sg' H' J' fp' g w (a.trans q) r n (s.trans t)
  | ex c fs r => exact fun sg' H' J' fp' cls d w q x t => h sg' H' J' fp' cls d w (a.trans q) x (s.trans t)
  | bad => exact h
theorem FinS.mono {x : R Fl} (m : ∀ i ∈ ws, i ∈ vs) (h : FinS G K W vs sg H J fp x D) : FinS G K W ws sg H J fp x D := by
  cases x with
  | ok f r =>
    cases f with
    | nx => exact fun sg' H' J' fp' w q t => h sg' H' J' fp' w (q.mono m) t
    | ret z => exact fun v sg' H' J' fp' g w q r n t => h v sg' H' J' fp' g w (q.mono m) r n t
  | ex c fs r => exact fun sg' H' J' fp' cls d w q x t => h sg' H' J' fp' cls d w (q.mono m) x t
  | bad => exact h
/-- a first value, then the rest of a statement -/
theorem FinS.bindD {x : R PyData} {f : PyData → Ro → R Fl} {T : V → Hp → Prop} (h : FinS G K W vs sg H J fp (x.bind f) D)
    (k : ∀ d r1 v H1 J1 fp1, x = .ok d r1 → Wf K H1 J1 sg r1 fp1 → Sh K J1 v d → Step (Own fp) H J (Own fp1) H1 J1 → FinS G K W vs sg H1 J1 fp1 (f d r1) D → T v H1) : Fin G K W (RepD K) sg H J fp x T := by
  cases x with
  | ok d r1 =>
    intro v H1 J1 fp1 g w q n t
    obtain ⟨rfl, q⟩ := q
    exact k d r1 v H1 J1 fp1 rfl w q (step_nil t) (FinS.later .refl (step_nil t) h)
  | ex c fs r => exact fun H' J' fp' cls d w q t => h sg H' J' fp' cls d w .refl q t
  | bad => exact h
theorem FinS.bindS {x : R Slot} {f : Slot → Ro → R Fl} {T : V → Hp → Prop} (h : FinS G K W vs sg H J fp (x.bind f) D)
    (k : ∀ s r1 v H1 J1 fp1 g, x = .ok s r1 → Wf K H1 J1 sg r1 fp1 → RepS K H1 J1 s v g → (∀ b ∈ g, J1 b = none ∧ ¬ Own fp1 b) → Step (Own fp) H J (fun b => Own fp1 b ∨ b ∈ g) H1 J1 → FinS G K W vs sg H J fp (f s r1) D → T v H1) : Fin G K W (RepS K) sg H J fp x T := by
  cases x with
  | ok d r1 => exact fun v H1 J1 fp1 g w q n t => k d r1 v H1 J1 fp1 g rfl w q n t h
  | ex c fs r => exact fun H' J' fp' cls d w q t => h sg H' J' fp' cls d w .refl q t
  | bad => exact h
theorem FinS.bindB {x : R Bool} {f : Bool → Ro → R Fl} {T : Bool → Hp → Prop} (h : FinS G K W vs sg H J fp (x.bind f) D)
    (k : ∀ b r1 H1 J1 fp1, x = .ok b r1 → Wf K H1 J1 sg r1 fp1 → FinS G K W vs sg H1 J1 fp1 (f b r1) D → T b H1) : FinB G K W sg H J fp x T := by
  cases x with
  | ok b r1 => exact fun H1 J1 fp1 w t => k b r1 H1 J1 fp1 rfl w (FinS.later .refl t h)
  | ex c fs r => exact fun H' J' fp' cls d w q t => h sg H' J' fp' cls d w .refl q t
  | bad => exact h
/-- a name's store -/
theorem store_read {i : Nat} {x : R Slot} (hv : i ∈ vs) (h : FinS G K W vs sg H J fp (x.bind fun s r1 => match asgN i s r1 with | some r2 => .ok .nx r2 | none => .bad) D) :
    Fin G K W (RepS K) sg H J fp x fun v H1 => gName i v sg H1 D.nx := by
  refine FinS.bindS h fun s r1 v H1 J1 fp1 g _ w1 q n t f => ?_
  simp only [asgN] at f
  split at f
  · rename_i r2 e
    split at e
    · rename_i hi
      cases e
      have hi := of_decide_eq_true hi
      refine f _ H1 J1 (fpSet fp1 i g) (w1.put hi q fun b z => ⟨(n b z).1, fun j _ y => (n b z).2 ⟨j, y⟩⟩) (.set hv) (t.weak fun b z => (own_set z).elim .inr .inl)
    · cases e
  · exact f.elim
theorem turns_drop {step : PyData → Ro → R Fl} {items : List PyData} {i : Nat} {d : PyData} {r : Ro} (hd : items[i]? = some d) : turns step (items.drop i) r = match step d r with | .ok .nx r' => turns step (items.drop (i + 1)) r' | o => o := by
  have hi := (List.getElem?_eq_some_iff.mp hd).1
  have e : items.drop i = d :: items.drop (i + 1) := by
    rw [List.drop_eq_getElem_cons hi, (List.getElem?_eq_some_iff.mp hd).2]
  rw [e]
  rfl

/-- a for, by its turns -/
theorem for_read {t : CT} {it : CI} {b : CSs} (hlk : ∀ i ∈ lockI it, i ∉ slotsT t ++ asgds b) (h : tS G K W fu Phi (slotsT t ++ asgds b) (.for_ t it b) D sg H) :
    tFor (tI G K W Phi it) (tT K t) (tSs G K W fu Phi (asgds b) b) D sg H := by
  obtain ⟨J, r, fp, w, f⟩ := h
  refine ⟨J, r, fp, w, ?_⟩
  simp only [ex] at f
  generalize hws : slotsT t ++ asgds b = ws at *
  cases e : evI Phi it r with
  | bad => rw [e] at f; exact f
  | ex c fs r1 => rw [e] at f; exact fun H' J' fp' cls d w q t => f sg H' J' fp' cls d w .refl q t
  | ok a r1 =>
    obtain ⟨items, lks⟩ := a
    rw [e] at f
    simp only [R.ok_bind] at f
    intro T S H1 J1 fp1 g y vs w1 wk s1 kp o1 el hlen t1
    simp only at el hlen wk
    generalize hst : (fun d q => match asg t d q with
        | some q1 => exs fu Phi b q1
        | none => R.bad) = step at f
    /- the places that are locked -/
    have hl : ∀ p ∈ y, ∀ i s, p.2 = some (some i, s) → i ∉ ws := by
      intro p hp i s hps
      have : p.2 ∈ lks := by rw [← el]; exact List.mem_map.mpr ⟨p, hp, rfl⟩
      refine hlk i ?_
      rw [hps] at this
      clear f hlk kp wk s1 o1 el
      cases it with
      | seq c =>
        cases c with
        | var j =>
          simp only [evI, getL] at e
          split at e
          · rename_i d ed
            simp only [R.ok_bind, seqI] at e
            split at e <;> cases e <;> simp at this
          · rename_i ds ed
            simp only [R.ok_bind, seqI] at e
            cases e
            simp at this
            simp [lockI, this.1]
          · cases e
        | _ =>
          simp only [evI] at e
          generalize (ev Phi _ r).sh = z at e
          cases z with
          | ok d r2 =>
            simp only [R.ok_bind, seqI] at e
            split at e <;> cases e <;> simp at this
          | _ => cases e
      | rng1 c =>
        simp only [evI] at e
        generalize (ev Phi _ r).sh = z at e
        cases z with
        | ok d r2 =>
          simp only [R.ok_bind] at e
          split at e
          · split at e <;> cases e
            simp at this
          · cases e
        | _ => cases e
      | rng2 c d =>
        simp only [evI] at e
        generalize (ev Phi c r).sh = z at e
        cases z with
        | ok d r2 =>
          simp only [R.ok_bind] at e
          generalize (ev Phi _ r2).sh = z at e
          cases z with
          | ok d r2 =>
            simp only [R.ok_bind] at e
            split at e
            · split at e <;> cases e
              simp at this
            · cases e
          | _ => cases e
        | _ => cases e
    have Oag : ∀ {H J : Hp} {fp : Nat → List Addr} {sg sg' : St}, Agree ws sg sg' → ∀ {x : List (PyData × Lk)} {vs : List V} {gs : List Addr}, (∀ p ∈ x, ∀ i s, p.2 = some (some i, s) → i ∉ ws) → Opds K H J fp sg x vs gs → Opds K H J fp sg' x vs gs := by
      intro H J fp sg sg' ag x vs gs hx o
      induction o with
      | nil => exact .nil
      | cons h n k ih =>
        refine .cons ?_ n (ih fun p q => hx p (List.mem_cons_of_mem _ q))
        rename_i d l x v vs g gs
        cases l with
        | none => exact h
        | some p =>
          obtain ⟨oi, s⟩ := p
          obtain ⟨h1, h2, h3, h4⟩ := h
          exact ⟨h1, h2, (fun i e => by subst e; rw [ag.2 i (hx _ (List.mem_cons_self ..) i s rfl)]; exact h3 i rfl), h4⟩
    have f' : FinS G K W ws sg H J fp ((turns step items r1).bind fun f r2 => .ok f (unlks lks r2)) D := f
    clear f
    have f2 : FinS G K W ws sg H1 J1 fp1 ((turns step items r1).bind fun f r2 => .ok f (unlks lks r2)) D → True := fun _ => trivial
    refine ⟨fun i m sg' H' => m = items.length - i ∧ i ≤ items.length ∧ ∃ J' r' fp', Wf K H' J' sg' r' fp' ∧ S H' J' ∧ Opds K H' J' fp' sg' y vs g ∧ Agree ws sg sg' ∧
        Step (fun b => Own fp1 b ∨ b ∈ g) H1 J1 (fun b => Own fp' b ∨ b ∈ g) H' J' ∧ turns step (items.drop i) r' = turns step items r1, ⟨_, rfl, Nat.zero_le _, J1, r1, fp1, w1, s1, o1, .refl, Step.refl, rfl⟩, ?_⟩
    rintro i m sg0 H0 ⟨rfl, hi, J0, r0, fp0, w0, s0, o0, ag0, st0, et0⟩
    by_cases hlt : i < items.length
    · refine .inr ⟨wk.go i H0 J0 w0.same s0 hlt, fun sg' H' => _, fun sg' H' q => ⟨items.length - (i + 1), by omega, q⟩, fun x H2 hy => ?_⟩
      obtain ⟨J2, d, hd, hx, sm2, s2, t2⟩ := wk.yld i H0 J0 x H2 w0.same s0 hlt hy
      rw [turns_drop hd] at et0
      have w2 : Wf K H2 J2 sg0 r0 fp0 := w0.step t2 sm2 fun _ _ z => z
      have t2' : Step (Own fp0) H0 J0 (Own fp0) H2 J2 := ⟨t2.js, fun b o q _ => t2.fr b o q id, fun b q => .inl q, fun b q => (t2.jg b q).imp id fun z => z.imp False.elim id⟩
      have o2 : Opds K H2 J2 fp0 sg0 y vs g := Opds.stepG t2' (fun _ z => z) o0 fun b q => (o0.off b q).2.1
      have gO : ∀ b ∈ g, ¬ Own fp0 b := fun b q => (o2.off b q).2.1
      have st2 : Step (fun b => Own fp1 b ∨ b ∈ g) H1 J1 (fun b => Own fp0 b ∨ b ∈ g) H2 J2 := st0.trans ⟨t2.js, fun b o q _ => t2.fr b o q id, fun b q => .inl q, fun b q => (t2.jg b q).imp id fun z => z.imp False.elim id⟩
      cases ea : asg t d r0 with
      | none =>
        have : step d r0 = .bad := by rw [← hst]; simp only [ea]
        rw [this] at et0
        rw [← et0] at f'
        exact f'.elim
      | some q1 =>
        have hstep : step d r0 = exs fu Phi b q1 := by rw [← hst]; simp only [ea]
        rw [hstep] at et0
        refine asg_ok ea w2 hx fun sg3 fp3 w3 own3 ag3 => ⟨J2, q1, fp3, w3, ?_⟩
        have ag03 : Agree ws sg sg3 := ag0.trans (ag3.mono fun j z => by rw [← hws]; exact List.mem_append.mpr (.inl z))
        have lift : ∀ {F' : Addr → Prop} {H4 J4 : Hp}, Step (Own fp3) H2 J2 F' H4 J4 → Step (fun b => Own fp0 b ∨ b ∈ g) H2 J2 (fun b => F' b ∨ b ∈ g) H4 J4 := fun {F' H4 J4} t =>
          ⟨t.js, fun b o q n => t.fr b o q fun z => n (.inl (own3 b z)), fun b q => q.elim (fun q => (t.fn b q).imp (fun z => .inl (own3 b z)) id) fun q => .inl (.inr q), fun b q => (t.jg b q).imp id fun z => z.imp (fun z => .inl (own3 b z)) id⟩
        have gF : ∀ b ∈ g, ¬ Own fp3 b := fun b q z => gO b q (own3 b z)
        have o3 : Opds K H2 J2 fp3 sg3 y vs g := Oag (ag3.mono fun j z => by rw [← hws]; exact List.mem_append.mpr (.inl z)) hl (Opds.stepG (Step.refl (F := Own fp0)) own3 o2 gO)
        cases eb : exs fu Phi b q1 with
        | bad =>
          rw [eb] at et0
          rw [← et0] at f'
          exact f'.elim
        | ex c fs r4 =>
          rw [eb] at et0
          rw [← et0] at f'
          intro sg4 H4 J4 fp4 cls dd w4 ag4 q4 t4
          refine f' sg4 H4 J4 fp4 cls dd w4 (ag03.trans (ag4.mono fun j z => by rw [← hws]; exact List.mem_append.mpr (.inr z))) q4 ((t1.trans (st2.trans (lift t4))).weak fun b z => .inl z)
        | ok fl r4 =>
          rw [eb] at et0
          cases fl with
          | ret z =>
            rw [← et0] at f'
            intro v sg4 H4 J4 fp4 g4 w4 ag4 q4 n4 t4
            have ag4' : Agree ws sg3 sg4 := ag4.mono fun j z => by rw [← hws]; exact List.mem_append.mpr (.inr z)
            have o4 : Opds K H4 J4 fp4 sg4 y vs g := Oag ag4' hl (Opds.stepG t4 (fun b z => .inl z) o3 gF)
            obtain ⟨fp5, w5, own5⟩ := o4.unlock w4
            rw [el] at w5
            refine f' v sg4 H4 J4 fp5 g4 w5 (ag03.trans ag4') q4 (fun b z => ⟨(n4 b z).1, fun q => ?_⟩) ((t1.trans (st2.trans (lift t4))).weak fun b q => ?_)
            · rcases own5 b q with q | q
              · exact (n4 b z).2 q
              · obtain ⟨_, _, o, ho⟩ := o3.off b q
                rcases t4.fn b (.inr z) with y | y
                · exact gF b q y
                · rw [ho] at y; cases y
            · rcases q with q | q
              · exact (own5 b q).elim (fun z => .inl (.inl z)) .inr
              · exact .inl (.inr q)
          | nx =>
            intro sg4 H4 J4 fp4 w4 ag4 t4
            have ag4' : Agree ws sg3 sg4 := ag4.mono fun j z => by rw [← hws]; exact List.mem_append.mpr (.inr z)
            exact ⟨rfl, hlt, J4, r4, fp4, w4, kp _ _ _ _ _ _ s2 t4 gF, Oag ag4' hl (Opds.stepG t4 (fun b z => z) o3 gF), ag03.trans ag4', st2.trans (lift t4), et0⟩
    · have ei : i = items.length := by omega
      refine .inl ⟨wk.stop i H0 J0 w0.same s0 (by omega), ?_⟩
      rw [ei, List.drop_length] at et0
      rw [← et0] at f'
      obtain ⟨fp3, w3, own3⟩ := o0.unlock w0
      rw [el] at w3
      exact f' sg0 H0 J0 fp3 w3 ag0 ((t1.trans st0).weak fun b q => own3 b q)
end
end Ev
end

section
set_option Elab.async false
set_option linter.all false
set_option maxRecDepth 100000
set_option maxHeartbeats 4000000
namespace Ev
open PySem L2

section
variable {G : Errs} {K : PySem.W.Frag} {W : WX} {fu : Nat} {Phi : Nat → Ro → FR} {vs ws : List Nat} {sg sg1 : St} {H J H1 J1 : Hp} {fp fp1 : Nat → List Addr} {D : Ends}
theorem while_read {c : CE} {b : CSs} (h : tS G K W fu Phi (asgds b) (.while_ c b) D sg H) : tWhile (tTr G K W Phi c) (tSs G K W fu Phi (asgds b) b) D sg H := by
  obtain ⟨J, r, fp, w, f⟩ := h
  simp only [ex] at f
  generalize hres : loop (fun q => (ev Phi c q).truth) (fun q => exs fu Phi b q) fu r = res at f
  refine ⟨fun m sg' H' => ∃ J' r' fp', Wf K H' J' sg' r' fp' ∧ Agree (asgds b) sg sg' ∧ Step (Own fp) H J (Own fp') H' J' ∧ loop (fun q => (ev Phi c q).truth) (fun q => exs fu Phi b q) m r' = res, ⟨fu, J, r, fp, w, .refl, Step.refl, hres⟩, ?_⟩
  rintro m sg0 H0 ⟨J0, r0, fp0, w0, ag0, st0, e0⟩
  cases m with
  | zero =>
    simp only [loop] at e0
    rw [← e0] at f
    exact f.elim
  | succ m =>
    simp only [loop] at e0
    refine ⟨J0, r0, fp0, w0, ?_⟩
    cases ec : (ev Phi c r0).truth with
    | bad =>
      rw [ec] at e0
      rw [← e0] at f
      exact f.elim
    | ex cc fs r1 =>
      rw [ec] at e0
      rw [← e0] at f
      exact fun H' J' fp' cls d w q t => f sg0 H' J' fp' cls d w ag0 q (st0.trans t)
    | ok x r1 =>
      rw [ec] at e0
      intro H1 J1 fp1 w1 t1
      cases x with
      | false =>
        rw [if_neg Bool.false_ne_true]
        simp only at e0
        rw [← e0] at f
        exact f sg0 H1 J1 fp1 w1 ag0 (st0.trans t1)
      | true =>
        rw [if_pos rfl]
        refine ⟨fun sg' H' => ∃ J' r' fp', Wf K H' J' sg' r' fp' ∧ Agree (asgds b) sg sg' ∧ Step (Own fp) H J (Own fp') H' J' ∧ loop (fun q => (ev Phi c q).truth) (fun q => exs fu Phi b q) m r' = res, fun sg' H' q => ⟨m, Nat.lt_succ_self m, q⟩, J1, r1, fp1, w1, ?_⟩
        simp only at e0
        cases eb : exs fu Phi b r1 with
        | bad =>
          rw [eb] at e0
          rw [← e0] at f
          exact f.elim
        | ex cc fs r2 =>
          rw [eb] at e0
          rw [← e0] at f
          exact fun sg' H' J' fp' cls d w a q t => f sg' H' J' fp' cls d w (ag0.trans a) q ((st0.trans t1).trans t)
        | ok fl r2 =>
          rw [eb] at e0
          cases fl with
          | nx => exact fun sg' H' J' fp' w a t => ⟨J', r2, fp', w, ag0.trans a, (st0.trans t1).trans t, e0⟩
          | ret z =>
            rw [← e0] at f
            exact fun v sg' H' J' fp' g w a q n t => f v sg' H' J' fp' g w (ag0.trans a) q n ((st0.trans t1).trans t)

theorem sw_eq {X : Cx} {sc : Scope} {e : Expr} {x : Str} {py : Pos} {l : Nat} (hsc : X.env.scope = sc) (hk : sc.kind = .function) (hne : ∀ a b c d e', e ≠ .DictComp a b c d e') (hns : ∀ a b c d, e ≠ .SetComp a b c d) :
    swapsWith e (some (.Name x py)) l X.env = pure (swB sc e x py) := by
  cases e <;> first | rfl | exact absurd rfl (hne _ _ _ _ _) | exact absurd rfl (hns _ _ _ _) | skip
  rename_i elt gs scope pos
  have hb : X.env.blockKind = .function := by unfold Env.blockKind; rw [hsc, hk]; rfl
  have hx : X.env.kindOf x = sc.names.lookup x := by show X.env.scope.names.lookup x = _; rw [hsc]
  unfold swapsWith swB
  simp only [hb, hx, Expr.pos]
  have e1 : (List.lookup x sc.names == some NameKind.local) = decide (List.lookup x sc.names = some NameKind.local) := by
    cases List.lookup x sc.names with
    | none => rfl
    | some q => cases q <;> rfl
  rw [e1]
  rfl
end

section
variable {P : Prg} {N : List Str} {k : Nat} {Phi : Nat → Ro → FR} {X : Cx} {sc : Scope} {fb : Str → Bool} {W : WX} {fu : Nat}
/-- a list of one's own written -/
theorem own_write {K : PySem.W.Frag} {H J : Hp} {sg : St} {r : Ro} {fp : Nat → List Addr} {i : Nat} {a : Addr} {ds : List PyData} (w : Wf K H J sg r fp) (hv : sg[i]? = some (some (.ref a))) (ed : r[i]? = some (.lst ds)) :
    ∃ xs, H a = some (.lst xs) ∧ ShAll K J xs ds ∧ ∀ {ys : List V} {es : List PyData}, ShAll K J ys es → ∃ fp2, Wf K (upd H a (.lst ys)) J sg (r.set i (.lst es)) fp2 ∧ Step (Own fp) H J (Own fp2) (upd H a (.lst ys)) J := by
  obtain ⟨v', hv', a', xs, e1, hg, ha, hd⟩ := w.rep i _ ed (fun z => nomatch z)
  rw [hv] at hv'
  cases hv'
  cases e1
  have mem : a ∈ fp i := by rw [hg]; exact List.mem_singleton.mpr rfl
  have hi : i < r.length := (List.getElem?_eq_some_iff.mp ed).1
  have jn := (w.jn i a mem).1
  refine ⟨xs, ha, hd, fun {ys es} hy => ?_⟩
  have w2 : Wf K (upd H a (.lst ys)) J sg (r.set i .non) (fpSet fp i []) := (w.drop i).step (step_upd (D := a)) (same_updN w.same jn) fun b z y => own_wipe_ne w mem (by rw [← y]; exact z)
  have w3 := w2.putKeep (i := i) (s := .lst es) (v := .ref a) (g := [a]) (by rw [List.length_set]; exact hi) hv ⟨a, _, rfl, rfl, upd_same, hy⟩ fun b z => by
    cases List.mem_singleton.mp z
    exact ⟨jn, fun k hk y => own_wipe_ne w mem ⟨k, y⟩⟩
  rw [List.set_set] at w3
  refine ⟨_, w3, Same.refl _, fun b o q nb => ?_, fun b q => ?_, fun b q => .inl q⟩
  · rw [upd_ne fun z => nb (by rw [z]; exact ⟨i, mem⟩)]
    exact q
  · rcases own_set q with z | z
    · cases List.mem_singleton.mp z; exact .inl ⟨i, mem⟩
    · exact .inl (own_wipe z)
theorem noDC {c : CE} {e : Expr} (h : okE P.tx N sc c e = true) : (∀ a b c d e', e ≠ .DictComp a b c d e') ∧ (∀ a b c d, e ≠ .SetComp a b c d) := by
  constructor
  · rintro a b c' d e' rfl
    cases c <;> simp [okE, opForm, mthd, badE] at h
  · rintro a b c' d rfl
    cases c <;> simp [okE, opForm, mthd, badE] at h
theorem notLcSw {e : Expr} {l : Nat} {env : Env} (h : isLc e = false) : swapsWith e none l env = pure false := by
  cases e <;> first | rfl | (simp [isLc] at h)
theorem seq_read {s : CS} {ss : CSs} {D : Ends} {sg : St} {H : Hp} (h : tSs P.errs X.K W fu Phi (asgd s ++ asgds ss) (.cons s ss) D sg H) : tSeq (tS P.errs X.K W fu Phi (asgd s) s) (tSs P.errs X.K W fu Phi (asgds ss) ss) D sg H := by
  obtain ⟨J, r, fp, w, f⟩ := h
  refine ⟨J, r, fp, w, ?_⟩
  simp only [exs] at f
  have m1 : ∀ i ∈ asgd s, i ∈ asgd s ++ asgds ss := fun i z => List.mem_append.mpr (.inl z)
  have m2 : ∀ i ∈ asgds ss, i ∈ asgd s ++ asgds ss := fun i z => List.mem_append.mpr (.inr z)
  cases e : ex fu Phi s r with
  | bad => rw [e] at f; exact f
  | ex c fs r1 => rw [e] at f; exact fun sg' H' J' fp' cls d w a q t => f sg' H' J' fp' cls d w (a.mono m1) q t
  | ok fl r1 =>
    rw [e] at f
    cases fl with
    | ret z => exact fun v sg' H' J' fp' g w a q n t => f v sg' H' J' fp' g w (a.mono m1) q n t
    | nx => exact fun sg' H' J' fp' w a t => ⟨J', r1, fp', w, FinS.mono m2 (FinS.later (a.mono m1) t f)⟩

mutual
theorem soundS : ∀ (c : CS) {st : Stmt}, Good P N k Phi X sc fb → Takes X W → PassesOwn (model X.prog X.w) X.A X.env X.xe → okS P.tx N sc fb c st = true → PS X st (tS P.errs X.K W fu Phi (asgd c) c)
  | .set (.name i) c, st, g, tk, hp, h => by
    unfold okS at h
    split at h <;> first | (rename_i q; cases q; done) | skip
    all_goals first | (cases h; done) | skip
    rename_i _ _ x py e _ q
    cases q
    simp only [Bool.and_eq_true, Bool.not_eq_true'] at h
    obtain ⟨⟨h1, h2⟩, h3⟩ := h
    obtain ⟨a1, a2, a3⟩ := isL_ok (pos := py) g h1
    obtain ⟨d1, d2⟩ := noDC h2
    refine PS.imp (ps_set (by rw [g.hN]; exact g.nd) a1 a2 (sound c g tk h2).1 (by rw [sw_eq g.hsc g.kd d1 d2, h3]) a3) fun D sg H ⟨J, r, fp, w, f⟩ => ?_
    simp only [ex] at f
    exact ⟨J, r, fp, w, store_read (by simp [asgd, slotsT]) f⟩
  | .set (.tup ts) c, st, g, tk, hp, h => by
    unfold okS at h
    split at h <;> first | (rename_i q; cases q; done) | skip
    all_goals first | (cases h; done) | skip
    rename_i _ _ l kk p e _ q
    cases q
    simp only [Bool.and_eq_true] at h
    obtain ⟨⟨h1, h2⟩, h3⟩ := h
    obtain ⟨d1, d2⟩ := noDC h2
    refine PS.imp (ps_asg (PE.sh (sound c g tk h2).1) (soundT g h1) ?_ ?_) fun D sg H ⟨J, r, fp, w, f⟩ => ?_
    · cases e <;> first | rfl | (simp at h3; done) | skip
    · cases e <;> first | rfl | (simp at h3; done) | skip
    · simp only [ex] at f
      refine ⟨J, r, fp, w, FinS.bindD f fun d r1 v H1 J1 fp1 _ w1 q t1 f1 => ?_⟩
      cases ea : asg (.tup ts) d r1 with
      | none => rw [ea] at f1; exact f1.elim
      | some r2 =>
        rw [ea] at f1
        exact asg_ok ea w1 q fun sg' fp' w' o' a' => f1 sg' H1 J1 fp' w' a' (Step.refl.weak o')
  | .setLc i c, st, g, tk, hp, h => by
    unfold okS at h
    split at h <;> first | (rename_i q; cases q; done) | skip
    all_goals first | (cases h; done) | skip
    rename_i _ elt tg it cond own x py e _ q
    cases q
    simp only [Bool.and_eq_true, decide_eq_true_eq] at h
    obtain ⟨⟨⟨h1, h2⟩, h3⟩, h4⟩ := h
    obtain ⟨d1, d2⟩ := noDC h3
    have hsw := sw_eq (l := 0) (x := x) (py := py) g.hsc g.kd d1 d2
    cases e <;> try simp only [okE, Bool.false_eq_true] at h3
    rename_i e gs scope pos
    match gs, h3 with
    | [], h3 => simp only [okE, Bool.false_eq_true] at h3
    | _ :: _ :: _, h3 => simp only [okE, Bool.false_eq_true] at h3
    | [⟨t, i', ifs, a⟩], h3 =>
      by_cases ha : a = 0
      · subst ha
        simp only [okE, Bool.and_eq_true] at h3
        obtain ⟨⟨⟨⟨⟨k1, k2⟩, k3⟩, k4⟩, k5⟩, k6⟩ := h3
        have bk := blkOk_by k1
        have hso : ∀ j ∈ slotsT tg, j ∈ own.map (·.2) := fun j q => of_decide_eq_true (List.all_eq_true.mp k6 j q)
        refine PS.imp (ps_setLc (own := own) (wi := tI P.errs X.K W Phi it) (g := tT X.K tg) (tt := tCs P.errs X.K W0 Phi cond) (te := tSh P.errs X.K W0 Phi elt) g.calm (by rw [g.hN]; exact g.nd) (by rw [g.hN]; exact h1) (by rw [g.hsc]; exact h2) (by rw [sw_eq g.hsc g.kd d1 d2, h4]) (soundI it g tk k3) (by rw [g.hN, g.hsc]; exact bk) (fun s H C cl fp => soundT (g.blk bk.kind) k2) (fun s H C cl fp => soundC cond (g.blk bk.kind) takes0 k4)
          (fun s H C cl fp => PE.sh (sound elt (g.blk bk.kind) takes0 k5).1) (foldS (notSetI k3))) fun D sg H ⟨J, r, fp, w, f⟩ => ?_
        simp only [ex] at f
        exact lc_read hso ⟨J, r, fp, w, store_read (by simp [asgd]) f⟩
      · exfalso
        have : okE P.tx N sc (.lc elt tg it cond own) (.ListComp e [⟨t, i', ifs, a⟩] scope pos) = false := by
          unfold okE
          split <;> first | rfl | (rename_i q; simp_all)
        rw [this] at h3
        cases h3
  | .move i j, st, g, tk, hp, h => by
    unfold okS at h
    split at h <;> first | (rename_i q; cases q; done) | skip
    all_goals first | (cases h; done) | skip
    rename_i _ _ _ x py y pp pos q
    cases q
    simp only [Bool.and_eq_true, decide_eq_true_eq] at h
    obtain ⟨⟨h1, h2⟩, h3⟩ := h
    obtain ⟨a1, a2, a3⟩ := isL_ok (pos := py) g h1
    refine PS.imp (ps_set (by rw [g.hN]; exact g.nd) a1 a2 (isV_ok g h2) rfl a3) fun D sg H ⟨J, r, fp, w, f⟩ => ?_
    simp only [ex] at f
    split at f
    · rename_i ds ed
      obtain ⟨v, hv, q⟩ := w.rep j _ ed (fun z => nomatch z)
      refine ⟨v, hv, ?_⟩
      simp only [asgN] at f
      split at f
      · rename_i r2 e
        split at e
        · rename_i hi
          cases e
          have hi := of_decide_eq_true hi
          refine f _ H J (fpSet (fpSet fp j []) i (fp j)) ((w.drop j).put hi q fun b z => ⟨(w.jn j b z).1, fun l _ y => own_wipe_ne w z ⟨l, y⟩⟩) (.set (by simp [asgd])) (Step.refl.weak fun b z => (own_set z).elim (fun z => ⟨j, z⟩) own_wipe)
        · cases e
      · exact f.elim
    · rename_i d ed
      obtain ⟨v, hv, q⟩ := w.rep j _ ed (fun z => nomatch z)
      refine ⟨v, hv, ?_⟩
      simp only [asgN] at f
      split at f
      · rename_i r2 e
        split at e
        · rename_i hi
          cases e
          exact f _ H J _ (w.putSh (of_decide_eq_true hi) q.2) (.set (by simp [asgd])) (Step.refl.weak fun b z => own_wipe z)
        · cases e
      · exact f.elim
    · exact f.elim
  | .aug i o c, st, g, tk, hp, h => by
    unfold okS at h
    split at h <;> first | (rename_i q; cases q; done) | skip
    all_goals first | (cases h; done) | skip
    rename_i _ _ _ x py op e pos q
    cases q
    simp only [Bool.and_eq_true, Bool.or_eq_true, decide_eq_true_eq] at h
    obtain ⟨⟨h1, h2⟩, h3⟩ := h
    obtain ⟨a1, a2, a3⟩ := isL_ok (pos := py) g h1
    have he := PE.sh (sound c g tk h3).1
    have key : ∀ {ff : Int → Int → Int}, (∀ x y, prim o [.int x, .int y] = some (.sh (.int (ff x y)))) → (∀ x d s, prim o [.int x, d] = some s → ∃ y, d = .int y) → PIp X op (ipI ff) → PS X (.AugAssign (.Name x py) op e pos) (tS P.errs X.K W fu Phi (asgd (.aug i o c)) (.aug i o c)) := by
      intro ff hff hint hip
      refine PS.imp (ps_aug (by rw [g.hN]; exact g.nd) a1 a2 he hip a3) fun D sg H ⟨J, r, fp, w, f⟩ => ?_
      simp only [ex] at f
      split at f
      · rename_i n en
        obtain ⟨v, hv, q⟩ := w.rep i _ en (fun z => nomatch z)
        obtain ⟨_, q⟩ := q
        cases q
        refine ⟨_, hv, J, r, fp, w, FinS.bindD f fun d r1 v H1 J1 fp1 _ w1 q t1 f1 => ?_⟩
        cases ep : prim o [.int n, d] with
        | none => rw [ep] at f1; exact f1.elim
        | some s =>
          obtain ⟨y, rfl⟩ := hint n d s ep
          cases q
          rw [hff] at f1
          refine ⟨n, y, rfl, rfl, ?_⟩
          simp only [asgN] at f1
          split at f1
          · rename_i r2 e2
            split at e2
            · rename_i hi
              cases e2
              exact f1 _ H1 J1 _ (w1.putSh (of_decide_eq_true hi) (.int _)) (.set (by simp [asgd])) (Step.refl.weak fun b z => own_wipe z)
            · cases e2
          · exact f1.elim
      · exact f.elim
    rcases h2 with ⟨rfl, rfl⟩ | ⟨rfl, rfl⟩
    · refine key (ff := fun a b => a + b) (fun x y => rfl) (fun x d s q => ?_) ip_add
      cases d <;> first | exact ⟨_, rfl⟩ | (simp [prim, pAdd] at q)
    · refine key (ff := fun a b => a - b) (fun x y => rfl) (fun x d s q => ?_) ip_sub
      cases d <;> first | exact ⟨_, rfl⟩ | (simp [prim, pSub] at q)
  | .ite c a b, st, g, tk, hp, h => by
    unfold okS at h
    split at h <;> first | (rename_i q; cases q; done) | skip
    all_goals first | (cases h; done) | skip
    rename_i _ _ _ _ e l m _ q
    cases q
    simp only [Bool.and_eq_true] at h
    obtain ⟨⟨h1, h2⟩, h3⟩ := h
    refine PS.imp (ps_if (sound c g tk h1).2.1 (soundSs a g tk hp h2) (soundSs b g tk hp h3)) fun D sg H ⟨J, r, fp, w, f⟩ => ?_
    simp only [ex] at f
    refine ⟨J, r, fp, w, FinS.bindB f fun x r1 H1 J1 fp1 _ w1 f1 => ?_⟩
    cases x with
    | true =>
      rw [if_pos rfl]
      exact ⟨J1, r1, fp1, w1, FinS.mono (fun i z => List.mem_append.mpr (.inl z)) f1⟩
    | false =>
      rw [if_neg Bool.false_ne_true]
      exact ⟨J1, r1, fp1, w1, FinS.mono (fun i z => List.mem_append.mpr (.inr z)) f1⟩
  | .for_ t it b, st, g, tk, hp, h => by
    unfold okS at h
    split at h <;> first | (rename_i q; cases q; done) | skip
    all_goals first | (cases h; done) | skip
    rename_i _ _ _ _ tg e l _ q
    cases q
    simp only [Bool.and_eq_true] at h
    obtain ⟨⟨⟨h1, h2⟩, h3⟩, h4⟩ := h
    exact PS.imp (ps_for hp g.calm (soundI it g tk h2) (soundT g h1) (soundSs b g tk hp h3) (foldS (notSetI h2))) fun D sg H q => for_read (fun i z => of_decide_eq_true (List.all_eq_true.mp h4 i z)) q
  | .while_ c b, st, g, tk, hp, h => by
    unfold okS at h
    split at h <;> first | (rename_i q; cases q; done) | skip
    all_goals first | (cases h; done) | skip
    rename_i _ _ _ e l _ q
    cases q
    simp only [Bool.and_eq_true] at h
    exact PS.imp (ps_while hp (sound c g tk h.1).2.1 (soundSs b g tk hp h.2)) fun D sg H q => while_read q
  | .ret c, st, g, tk, hp, h => by
    unfold okS at h
    split at h <;> first | (rename_i q; cases q; done) | skip
    all_goals first | (cases h; done) | skip
    · rename_i _ c' e pos q
      cases q
      have s1 := (sound c g tk h).1
      have gen : (∀ r, ex fu Phi (.ret c) r = (ev Phi c r).bind fun s r1 => .ok (.ret s) r1) → PS X (.Return (some e) pos) (tS P.errs X.K W fu Phi (asgd (.ret c)) (.ret c)) := fun e1 => by
        refine PS.imp (ps_ret s1) fun D sg H ⟨J, r, fp, w, f⟩ => ⟨J, r, fp, w, ?_⟩
        rw [e1] at f
        refine FinS.bindS f fun s r1 v H1 J1 fp1 g _ w1 q n t f1 => f1 v sg H1 J1 fp1 g w1 .refl q n t
      cases c with
      | var i =>
        cases e <;> try simp only [okE, Bool.false_eq_true] at h
        refine PS.imp (ps_ret (isV_ok g h)) fun D sg H ⟨J, r, fp, w, f⟩ => ?_
        simp only [ex] at f
        split at f
        · rename_i d ed
          obtain ⟨v, hv, q⟩ := w.rep i _ ed (fun z => nomatch z)
          exact ⟨v, hv, f v sg H J fp [] w .refl ⟨rfl, q.2⟩ (fun b z => nomatch z) (nil_step Step.refl)⟩
        · rename_i ds ed
          obtain ⟨v, hv, q⟩ := w.rep i _ ed (fun z => nomatch z)
          exact ⟨v, hv, f v sg H J (fpSet fp i []) (fp i) (w.drop i) .refl q (fun b z => ⟨(w.jn i b z).1, own_wipe_ne w z⟩) (Step.refl.weak fun b z => z.elim own_wipe fun z => ⟨i, z⟩)⟩
        · exact f.elim
      | _ => exact gen fun r => by simp only [ex]
    · rename_i q
      injection q with q
      subst q
      refine PS.imp ps_retN fun D sg H ⟨J, r, fp, w, f⟩ => ?_
      simp only [ex, ev, R.ok_bind] at f
      exact f .non sg H J fp [] w .refl ⟨rfl, .non⟩ (fun b z => nomatch z) (nil_step Step.refl)
  | .expr c, st, g, tk, hp, h => by
    unfold okS at h
    split at h <;> first | (rename_i q; cases q; done) | skip
    all_goals first | (cases h; done) | skip
    rename_i _ _ e _ q
    cases q
    simp only [Bool.and_eq_true, Bool.not_eq_true'] at h
    refine PS.imp (ps_expr (sound c g tk h.1).1 (notLcSw h.2)) fun D sg H ⟨J, r, fp, w, f⟩ => ⟨J, r, fp, w, ?_⟩
    simp only [ex] at f
    refine FinS.bindS f fun s r1 v H1 J1 fp1 g _ w1 q n t f1 => f1 sg H1 J1 fp1 w1 .refl (t.weak fun b z => .inl z)
  | .append i c, st, g, tk, hp, h => by
    unfold okS at h
    split at h <;> first | (rename_i q; cases q; done) | skip
    all_goals first | (cases h; done) | skip
    rename_i _ _ _ e _ q
    cases q
    split at h
    · rename_i x hx
      obtain ⟨y, p, ap, cp, rfl, hv, hs, hl⟩ := mthd_ok hx
      have he := PE.sh (sound c g tk h).1
      refine PS.imp (ps_expr (meth_list g PySem.F.slot_list_append PySem.F.type_list_append mt_append hv hs hl he) (notLcSw rfl)) fun D sg H ⟨J, r, fp, w, f⟩ => ?_
      simp only [ex] at f
      split at f
      · rename_i ds0 ed0
        obtain ⟨v, hv, a, xs0, rfl, hg0, ha0, hd0⟩ := w.rep i _ ed0 (fun z => nomatch z)
        refine ⟨_, hv, .inl ⟨rfl, xs0, .of ha0⟩, J, r, fp, w, FinS.bindD f fun d r1 v1 H1 J1 fp1 ee w1 q t1 f1 => ?_⟩
        clear ee
        split at f1
        · rename_i ds ed
          split at f1
          · rename_i hlen
            obtain ⟨xs, ha, hd, key⟩ := own_write w1 hv ed
            exact ⟨a, xs, v1, rfl, rfl, ha, by rw [shsLen hd, sizeLine_eq]; exact of_decide_eq_true hlen, let ⟨fp2, w2, t2⟩ := key (shsApp hd (.cons q .nil)); f1 sg _ J1 fp2 w2 .refl t2⟩
          · exact f1.elim
        · exact f1.elim
      · exact f.elim
    · cases h
  | .extend i c, st, g, tk, hp, h => by
    unfold okS at h
    split at h <;> first | (rename_i q; cases q; done) | skip
    all_goals first | (cases h; done) | skip
    rename_i _ _ _ e _ q
    cases q
    split at h
    · rename_i x hx
      obtain ⟨y, p, ap, cp, rfl, hv, hs, hl⟩ := mthd_ok hx
      have he := PE.sh (sound c g tk h).1
      refine PS.imp (ps_expr (meth_list g PySem.F.slot_list_extend PySem.F.type_list_extend mt_extend hv hs hl he) (notLcSw rfl)) fun D sg H ⟨J, r, fp, w, f⟩ => ?_
      simp only [ex] at f
      split at f
      · rename_i ds0 ed0
        obtain ⟨v, hv, a, xs0, rfl, hg0, ha0, hd0⟩ := w.rep i _ ed0 (fun z => nomatch z)
        refine ⟨_, hv, .inl ⟨rfl, xs0, .of ha0⟩, J, r, fp, w, FinS.bindD f fun d r1 v1 H1 J1 fp1 ee w1 q t1 f1 => ?_⟩
        clear ee
        split at f1
        · rename_i ds ys ed
          split at f1
          · rename_i hlen
            cases q with
            | lst hb hz =>
              obtain ⟨xs, ha, hd, key⟩ := own_write w1 hv ed
              exact ⟨a, _, xs, _, rfl, rfl, ha, w1.same _ _ hb, by rw [shsLen hd, shsLen hz, sizeLine_eq]; exact of_decide_eq_true hlen, let ⟨fp2, w2, t2⟩ := key (shsApp hd hz); f1 sg _ J1 fp2 w2 .refl t2⟩
          · exact f1.elim
        · exact f1.elim
      · exact f.elim
    · cases h
  | .setItem i kk c, st, g, tk, hp, h => by
    unfold okS at h
    split at h <;> first | (rename_i q; cases q; done) | skip
    all_goals first | (cases h; done) | skip
    rename_i _ _ _ _ x px s ps e _ q
    cases q
    simp only [Bool.and_eq_true, Bool.not_eq_true'] at h
    obtain ⟨⟨⟨h1, h2⟩, h3⟩, h4⟩ := h
    have he := PE.sh (sound c g tk h3).1
    have hk := PE.sh (sound kk g tk h2).1
    refine PS.imp (ps_asg he (pg_sub (isV_ok g h1) hk set_list ?_) ?_ ?_) fun D sg H ⟨J, r, fp, w, f⟩ => ?_
    · intro v
      cases s <;> first | rfl | (simp [isSlice] at h4)
    · cases e <;> rfl
    · cases e <;> rfl
    · simp only [ex] at f
      refine ⟨J, r, fp, w, FinS.bindD f fun d r1 v H1 J1 fp1 ee w1 q t1 f1 => ?_⟩
      clear ee
      split at f1
      · rename_i ds0 ed0
        obtain ⟨v', hv, a, xs0, rfl, hg0, ha0, hd0⟩ := w1.rep i _ ed0 (fun z => nomatch z)
        refine ⟨_, hv, J1, r1, fp1, w1, FinS.bindD f1 fun z r2 v2 H2 J2 fp2 ee w2 q2 t2 f2 => ?_⟩
        clear ee
        split at f2
        · rename_i n ds ed
          split at f2
          · rename_i j hj
            cases q2
            obtain ⟨xs, ha, hd, key⟩ := own_write w2 hv ed
            exact ⟨a, xs, n, j, rfl, rfl, ha, by rw [shsLen hd]; exact hj, let ⟨fp3, w3, t3⟩ := key (shsSet (shMono t2.js q) hd); f2 sg _ J2 fp3 w3 .refl t3⟩
          · exact f2.elim
        · exact f2.elim
      · exact f1.elim
  | .pass, st, g, tk, hp, h => by
    unfold okS at h
    split at h <;> first | (rename_i q; cases q; done) | skip
    all_goals first | (cases h; done) | skip
    exact PS.imp ps_pass fun D sg H ⟨J, r, fp, w, f⟩ => f sg H J fp w .refl Step.refl
theorem soundSs : ∀ (cs : CSs) {l : List Stmt}, Good P N k Phi X sc fb → Takes X W → PassesOwn (model X.prog X.w) X.A X.env X.xe → okSs P.tx N sc fb cs l = true → PSs X l (tSs P.errs X.K W fu Phi (asgds cs) cs)
  | .nil, l, g, tk, hp, h => by
    cases l with
    | cons _ _ => simp [okSs] at h
    | nil => exact PSs.imp pss_nil fun D sg H ⟨J, r, fp, w, f⟩ => f sg H J fp w .refl Step.refl
  | .cons s ss, l, g, tk, hp, h => by
    cases l with
    | nil => simp [okSs] at h
    | cons x l =>
      simp only [okSs, Bool.and_eq_true] at h
      exact PSs.imp (pss_cons (soundS s g tk hp h.1) (soundSs ss g tk hp h.2)) fun D sg H q => seq_read q
end
end
end Ev
end

section
set_option Elab.async false
set_option linter.all false
set_option maxRecDepth 100000
set_option maxHeartbeats 4000000
namespace Ev
open PySem L2

theorem okArgs_get {muts : List Nat} : ∀ {args : Ro} {n : Nat}, okArgs muts n args = true → ∀ i s, args[i]? = some s → (∃ d, s = .sh d) ∨ ((∃ ds, s = .lst ds) ∧ n + i ∈ muts)
  | [], n, _, i, s, e => by simp at e
  | .sh d :: r, n, h, i, s, e => by
    simp only [okArgs] at h
    cases i with
    | zero => simp at e; exact .inl ⟨d, e.symm⟩
    | succ i =>
      have := okArgs_get h i s (by simpa using e)
      rw [Nat.add_right_comm] at this
      exact this
  | .lst ds :: r, n, h, i, s, e => by
    simp only [okArgs, Bool.and_eq_true, decide_eq_true_eq] at h
    cases i with
    | zero => simp at e; exact .inr ⟨⟨ds, e.symm⟩, h.1⟩
    | succ i =>
      have := okArgs_get h.2 i s (by simpa using e)
      rw [Nat.add_right_comm] at this
      exact this
  | .non :: r, n, h, _, _, _ => by simp [okArgs] at h

section
variable {K : PySem.W.Frag} {H J H' J' : Hp} {sg : St} {r : Ro} {fp fp' : Nat → List Addr}
theorem Wf.pad (w : Wf K H J sg r fp) (n : Nat) : Wf K H J (sg ++ List.replicate n none) (r ++ List.replicate n .non) fp where
  same := w.same
  len := by rw [List.length_append, List.length_append, List.length_replicate, List.length_replicate, w.len]
  rep := fun i s e ne => by
    by_cases hi : i < r.length
    · rw [List.getElem?_append_left hi] at e
      rw [List.getElem?_append_left (by rw [w.len]; exact hi)]
      exact w.rep i s e ne
    · rw [List.getElem?_append_right (Nat.le_of_not_lt hi), List.getElem?_replicate] at e
      split at e
      · cases e; exact absurd rfl ne
      · cases e
  emp := fun i e => by
    by_cases hi : i < r.length
    · rw [List.getElem?_append_left hi] at e
      exact w.emp i e
    · exact w.emp i (.inl (List.getElem?_eq_none (Nat.le_of_not_lt hi)))
  dis := w.dis
  jn := w.jn
/-- what a def's arguments are at its end -/
theorem outs_ok {muts : List Nat} {vs : List V} {args : Ro} {n : Nat} {sg' : St} {r' : Ro} {ws : List Nat} {F F' : Addr → Prop} (w : Wf K H J (vs.map some) args fp) (hok : okArgs muts 0 args = true) (w' : Wf K H' J' sg' r' fp')
    (ag : Agree ws (vs.map some ++ List.replicate n none) sg') (hm : ∀ i ∈ muts, i ∉ ws) (t : Step F H J F' H' J') : ∃ fpO, Wf K H' J' (vs.map some) (outsOf muts args r') fpO ∧ ∀ b, Own fpO b → Own fp' b := by
  have hl : vs.length = args.length := by have := w.len; rwa [List.length_map] at this
  have get : ∀ i, i < args.length → (outsOf muts args r')[i]? = some (if decide (i ∈ muts) = true then r'.getD i .non else args.getD i .non) := fun i hi => by
    simp [outsOf, hi]
  have getN : ∀ i, ¬ i < args.length → (outsOf muts args r')[i]? = none := fun i hi => by
    simp [outsOf]; omega
  have hsg : ∀ i, i ∈ muts → i < args.length → sg'[i]? = (vs.map some)[i]? := fun i h1 h2 => by
    rw [ag.2 i (hm i h1), List.getElem?_append_left (by rw [List.length_map, hl]; exact h2)]
  refine ⟨fun i => if i ∈ muts ∧ i < args.length then fp' i else [], ⟨w'.same, ?_, fun i s e ne => ?_, fun i e => ?_, fun i j b h1 h2 => ?_, fun i b h1 => ?_⟩, fun b ⟨i, h1⟩ => ?_⟩
  · simp [outsOf, hl]
  · by_cases hi : i < args.length
    · rw [get i hi] at e
      by_cases hmi : i ∈ muts
      · simp only [hmi, decide_true, if_true] at e
        rw [if_pos ⟨hmi, hi⟩]
        have hr' : r'[i]? = some s := by
          cases q : r'[i]? with
          | none => rw [List.getD_eq_getElem?_getD, q] at e; cases e; exact absurd rfl ne
          | some z => rw [List.getD_eq_getElem?_getD, q] at e; exact e
        obtain ⟨v, h1, h2⟩ := w'.rep i s hr' ne
        exact ⟨v, by rw [← hsg i hmi hi]; exact h1, h2⟩
      · simp only [hmi, decide_false, Bool.false_eq_true, if_false] at e
        rw [if_neg fun z => hmi z.1]
        have ha : args[i]? = some s := by
          rw [List.getD_eq_getElem?_getD, List.getElem?_eq_getElem hi] at e
          rw [List.getElem?_eq_getElem hi]
          exact e
        obtain ⟨v, h1, h2⟩ := w.rep i s ha ne
        refine ⟨v, h1, ?_⟩
        rcases okArgs_get hok i s ha with ⟨d, rfl⟩ | ⟨_, z⟩
        · exact ⟨rfl, shMono t.js h2.2⟩
        · rw [Nat.zero_add] at z; exact absurd z hmi
    · rw [getN i hi] at e; cases e
  · by_cases hi : i < args.length
    · rw [get i hi] at e
      by_cases hmi : i ∈ muts
      · simp only [hmi, decide_true, if_true] at e
        rw [if_pos ⟨hmi, hi⟩]
        refine w'.emp i ?_
        cases q : r'[i]? with
        | none => exact .inl rfl
        | some z =>
          rw [List.getD_eq_getElem?_getD, q] at e
          simp at e
          exact .inr (by rw [e])
      · rw [if_neg fun z => hmi z.1]
    · rw [if_neg fun z => hi z.2]
  · (try simp only at h1 h2)
    split at h1
    · split at h2
      · exact w'.dis i j b h1 h2
      · cases h2
    · cases h1
  · (try simp only at h1)
    split at h1
    · exact w'.jn i b h1
    · cases h1
  · simp only at h1
    split at h1
    · exact ⟨i, h1⟩
    · cases h1
end

section
variable {P : Prg} {pr : Program} {w : World} {K : PySem.W.Frag} {mg : Str → Option Value} {base : Heap} {N ps : List Str} {k fu : Nat} {Phi : Nat → Ro → FR}
/-- a def of the text keeps what the evaluator says of it -/
theorem fn_sound {x qual : Str} {st : Stmt} {f : Addr} {fd : FuncData} {F : Fn} (FF : Fun K x qual st f fd) (S : FnScope N ps (defScope st)) (hok : okSs P.tx N (defScope st) (fun _ => true) F.body (defBody st) = true) (hnp : F.np = ps.length) (hnn : F.nn = N.length)
    (hm : ∀ i ∈ F.muts, i ∉ asgds F.body) (blt : ∀ x ∈ bnames, mg x = none)
    (fns : ∀ f x, P.tx.names[f]? = some x → ∃ a fd ps, FnOk pr w K mg base (L2.CX pr w) k a fd ps (spF P.errs K (Phi f)) ∧ mg x = some (.ref a) ∧ PySem.W.keepIn K (.ref a) = true ∧ Binds K fd ps [])
    (csts : ∀ x d, P.tx.consts.lookup x = some d → ∃ u, mg x = some u ∧ match d with | .int j => ∃ t, u = .int j t | .str j => ∃ t, u = .str j t | _ => True) :
    FnOk pr w K mg base (L2.CX pr w) (k + 1) f fd ps (spF P.errs K (runF fu Phi F)) := by
  refine FF.okX S (fun vs H Q E h => ?_) (fun cdv A outer s H vs Q E hr h => ?_)
  · obtain ⟨J, args, fp, wf, h⟩ := h
    have hl := wf.len
    rw [List.length_map] at hl
    by_cases hc : (decide (args.length = F.np) && okArgs F.muts 0 args) = true
    · simp only [Bool.and_eq_true, decide_eq_true_eq] at hc
      rw [hl, hc.1, hnp]
    · have e : runF fu Phi F args = .bad := by unfold runF; rw [if_neg hc]
      rw [e] at h
      exact h.elim
  · obtain ⟨J, args, fp, wf, h⟩ := h
    have hl := wf.len
    rw [List.length_map] at hl
    by_cases hc : (decide (args.length = F.np) && okArgs F.muts 0 args) = true
    · have er : runF fu Phi F args = (match exs fu Phi F.body (args ++ List.replicate (F.nn - F.np) .non) with
        | .ok (.ret s) r => .ret s (outsOf F.muts args r)
        | .ok .nx r => .ret (.sh .none) (outsOf F.muts args r)
        | .ex c fs r => .ex c fs (outsOf F.muts args r)
        | .bad => .bad) := by unfold runF; rw [if_pos hc] <;> rfl
      rw [er] at h
      simp only [Bool.and_eq_true, decide_eq_true_eq] at hc
      obtain ⟨hc1, hc2⟩ := hc
      let X : Cx := cxOf (L2.CX pr w) pr w K mg base N qual (defScope st) f cdv A outer s H E
      have g : Good P N k Phi X (defScope st) (fun _ => true) := ⟨rfl, S.nd, rfl, S.kind, rfl, rfl, hr, blt, fns, csts⟩
      have tk : Takes X (fun cls d _ H => E cls d H) := takes_of rfl rfl rfl rfl
      have hp : PassesOwn (model X.prog X.w) X.A X.env X.xe := passes_of rfl
      refine ⟨_, soundSs (fu := fu) F.body g tk hp hok, ?_⟩
      have hrep : F.nn - F.np = N.length - vs.length := by rw [hnn, hl, hc1]
      refine ⟨J, args ++ List.replicate (F.nn - F.np) .non, fp, by rw [hrep]; exact wf.pad _, ?_⟩
      cases e : exs fu Phi F.body (args ++ List.replicate (F.nn - F.np) .non) with
      | bad => rw [e] at h; exact h
      | ex c fs r' =>
        rw [e] at h
        intro sg' H' J' fp' cls d w' ag q t
        obtain ⟨fpO, wO, oO⟩ := outs_ok wf hc2 w' ag hm t
        exact h H' J' fpO cls d wO q (t.weak oO)
      | ok fl r' =>
        rw [e] at h
        cases fl with
        | nx =>
          intro sg' H' J' fp' w' ag t
          obtain ⟨fpO, wO, oO⟩ := outs_ok wf hc2 w' ag hm t
          exact h .non H' J' fpO [] wO ⟨rfl, .non⟩ (fun b z => nomatch z) (nil_step (t.weak oO))
        | ret z =>
          intro v sg' H' J' fp' g' w' ag q n t
          obtain ⟨fpO, wO, oO⟩ := outs_ok wf hc2 w' ag hm t
          exact h v H' J' fpO g' wO q (fun b y => ⟨(n b y).1, fun z => (n b y).2 (oO b z)⟩) (t.weak fun b y => y.imp (oO b) id)
    · have e : runF fu Phi F args = .bad := by unfold runF; rw [if_neg hc]
      rw [e] at h
      exact h.elim

/-- what the program's top holds of a def -/
def FnAt (P : Prg) (K : PySem.W.Frag) (mg : Str → Option Value) (F : Fn) (x : Str) : Prop :=
  ∃ (qual : Str) (st : Stmt) (f : Addr) (fd : FuncData) (ps N : List Str), Fun K x qual st f fd ∧ FnScope N ps (defScope st) ∧ okSs P.tx N (defScope st) (fun _ => true) F.body (defBody st) = true ∧ F.np = ps.length ∧ F.nn = N.length ∧
    (F.muts.all fun i => decide (i ∉ asgds F.body)) = true ∧ mg x = some (.ref f) ∧ Binds K fd ps []
theorem table_sound {T : List Fn} (blt : ∀ x ∈ bnames, mg x = none)
    (csts : ∀ x d, P.tx.consts.lookup x = some d → ∃ u, mg x = some u ∧ match d with | .int j => ∃ t, u = .int j t | .str j => ∃ t, u = .str j t | _ => True)
    (tab : ∀ (i : Nat) (x : Str), P.tx.names[i]? = some x → ∃ F, T[i]? = some F ∧ FnAt P K mg F x) :
    ∀ (k i : Nat) (x : Str), P.tx.names[i]? = some x → ∃ a fd ps, FnOk pr w K mg base (L2.CX pr w) k a fd ps (spF P.errs K (run fu T k i)) ∧ mg x = some (.ref a) ∧ PySem.W.keepIn K (.ref a) = true ∧ Binds K fd ps []
  | 0, i, x, h => by
    obtain ⟨F, hF, qual, st, f, fd, ps, N, h1, _, _, _, _, _, h7, h8⟩ := tab i x h
    refine ⟨f, fd, ps, ⟨fun vs H Q E ⟨_, _, _, _, z⟩ => z.elim, fun A outer s H args us vs Q E _ _ _ _ ⟨_, _, _, _, z⟩ => z.elim⟩, h7, h1.kp, h8⟩
  | k + 1, i, x, h => by
    obtain ⟨F, hF, qual, st, f, fd, ps, N, h1, h2, h3, h4, h5, h6, h7, h8⟩ := tab i x h
    have ih := table_sound (T := T) blt csts tab k
    have := fn_sound (fu := fu) (pr := pr) (w := w) (base := base) (Phi := run fu T k) h1 h2 h3 h4 h5 (fun i q => of_decide_eq_true (List.all_eq_true.mp h6 i q)) blt ih csts
    refine ⟨f, fd, ps, ?_, h7, h1.kp, h8⟩
    have e : run fu T (k + 1) i = runF fu (run fu T k) F := by
      funext args
      simp only [run, hF]
    rw [e]
    exact this
end
/-- the script, as data -/
def scrD (ns : List Int) : PyData := .dict [(.none, .list (ns.map PyData.int))]
theorem law_start {P : Prg} {K : PySem.W.Frag} {Ph : Ro → FR} {H : Hp} {a : Addr} {ns : List Int} (hS : SqL K H a (ns.map V.int)) (h : ∃ outs, Ph [.sh (scrD ns)] = .ret (.sh (.bool true)) outs) :
    spF P.errs K Ph [.ref a] H (fun v _ => v = .bl true) fun _ _ _ => False := by
  obtain ⟨outs, e⟩ := h
  refine ⟨H, [.sh (scrD ns)], fpC [] fun _ => [], (Wf.nil (Same.refl H)).cons ⟨rfl, .scr hS⟩ (fun b q => nomatch q), ?_⟩
  rw [e]
  intro v H' J' fp' g _ q _ _
  obtain ⟨_, q⟩ := q
  cases q
  rfl
theorem cx_none {pr : Program} {w : World} {H : Hp} {s : Shared} {e : Value} {s' : Shared} (h : L2.CX pr w [] H s (fun _ _ _ => False) e s') : False := by
  obtain ⟨_, _, _, _, _, _, _, _, _, _, _, _, z⟩ := h
  exact z
end Ev
end

section
set_option linter.all false
namespace Lib
open PySem Ev
def b_law_pool : CSs := ((.cons (.set (.name 2) (.op .len (.cons (.var 0) .nil)))
    (.cons (.ite (.op .lt (.cons (.var 1) (.cons (.op .len (.cons (.var 0) .nil)) .nil))) (.cons (.set (.name 2) (.op .item (.cons (.var 0) (.cons (.var 1) .nil))))
    .nil) .nil)
    (.cons (.set (.name 3) (.op .mod (.cons (.op .mul (.cons (.op .add (.cons (.op .add (.cons (.op .mod (.cons (.var 2) (.cons (.cst (.int 1000000007)) .nil))) (.cons (.op .mul (.cons (.op .mul (.cons (.cst (.int 7368787)) (.cons (.var 1) .nil))) (.cons (.var 1) .nil))) .nil))) (.cons (.cst (.int 5)) .nil))) (.cons (.cst (.int 48271)) .nil))) (.cons (.cst (.int 2147483647)) .nil))))
    (.cons (.ite (.op .lt (.cons (.var 2) (.cons (.op .pow (.cons (.cst (.int 10)) (.cons (.cst (.int 18)) .nil))) .nil))) (.cons (.set (.name 2) (.cst (.int 0)))
    .nil) .nil)
    (.cons (.ret (.lst (.cons (.var 2) (.cons (.var 3) .nil))))
    .nil))))))
def f_law_pool : Fn := ⟨2, 4, [], b_law_pool⟩
def b_law_take : CSs := ((.cons (.ite (.op .gt (.cons (.op .item (.cons (.var 0) (.cons (.cst (.int 0)) .nil))) (.cons (.cst (.int 0)) .nil))) (.cons (.set (.name 2) (.op .mod (.cons (.op .item (.cons (.var 0) (.cons (.cst (.int 0)) .nil))) (.cons (.var 1) .nil))))
    (.cons (.setItem 0 (.cst (.int 0)) (.op .fdiv (.cons (.op .item (.cons (.var 0) (.cons (.cst (.int 0)) .nil))) (.cons (.var 1) .nil))))
    (.cons (.ret (.var 2))
    .nil))) .nil)
    (.cons (.setItem 0 (.cst (.int 1)) (.op .mod (.cons (.op .add (.cons (.op .mul (.cons (.op .item (.cons (.var 0) (.cons (.cst (.int 1)) .nil))) (.cons (.cst (.int 39373)) .nil))) (.cons (.cst (.int 11)) .nil))) (.cons (.cst (.int 2147483647)) .nil))))
    (.cons (.ret (.op .mod (.cons (.op .fdiv (.cons (.op .mod (.cons (.op .mul (.cons (.op .item (.cons (.var 0) (.cons (.cst (.int 1)) .nil))) (.cons (.op .item (.cons (.var 0) (.cons (.cst (.int 1)) .nil))) .nil))) (.cons (.cst (.int 2147483629)) .nil))) (.cons (.cst (.int 64)) .nil))) (.cons (.var 1) .nil))))
    .nil))))
def f_law_take : Fn := ⟨2, 3, [0], b_law_take⟩
def b_choices (c_choices : Nat) : CSs := ((.cons (.ite (.op .eq (.cons (.var 1) (.cons (.cst (.int 0)) .nil))) (.cons (.ret (.lst (.cons (.tup .nil) .nil)))
    .nil) .nil)
    (.cons (.set (.name 2) (.lst .nil))
    (.cons (.for_ (.name 3) (.rng2 (.op .sub (.cons (.var 1) (.cons (.cst (.int 1)) .nil))) (.var 0)) (.cons (.extend 2 (.lc (.op .add (.cons (.var 4) (.cons (.tup (.cons (.var 3) .nil)) .nil))) (.name 4) (.seq (.call c_choices (.cons (.var 3) (.cons (.op .sub (.cons (.var 1) (.cons (.cst (.int 1)) .nil))) .nil)))) .nil [(Str.ofString "choice", 4)]))
    .nil))
    (.cons (.ret (.op .sorted (.cons (.var 2) .nil)))
    .nil)))))
def f_choices (c_choices : Nat) : Fn := ⟨2, 5, [], b_choices c_choices⟩
def b_how_many : CSs := ((.cons (.set (.name 2) (.op .int_ (.cons (.op .le (.cons (.var 1) (.cons (.var 0) .nil))) .nil)))
    (.cons (.for_ (.name 3) (.rng1 (.var 1)) (.cons (.set (.name 2) (.op .fdiv (.cons (.op .mul (.cons (.var 2) (.cons (.op .sub (.cons (.var 0) (.cons (.var 3) .nil))) .nil))) (.cons (.op .add (.cons (.var 3) (.cons (.cst (.int 1)) .nil))) .nil))))
    .nil))
    (.cons (.ret (.var 2))
    .nil))))
def f_how_many : Fn := ⟨2, 4, [], b_how_many⟩
def b_law_choices : CSs := ((.cons (.set (.name 2) (.lst (.cons (.tup .nil) .nil)))
    (.cons (.for_ (.name 3) (.rng1 (.var 1)) (.cons (.set (.name 4) (.lst .nil))
    (.cons (.for_ (.name 5) (.seq (.var 2)) (.cons (.extend 4 (.lc (.op .add (.cons (.var 5) (.cons (.tup (.cons (.var 6) .nil)) .nil))) (.name 6) (.rng2 (.op .add (.cons (.op .item (.cons (.op .add (.cons (.lst (.cons (.op .neg (.cons (.cst (.int 1)) .nil)) .nil)) (.cons (.op .list_ (.cons (.var 5) .nil)) .nil))) (.cons (.op .neg (.cons (.cst (.int 1)) .nil)) .nil))) (.cons (.cst (.int 1)) .nil))) (.var 0)) .nil [(Str.ofString "_law_place", 6)]))
    .nil))
    (.cons (.move 2 4)
    .nil))))
    (.cons (.ret (.var 2))
    .nil))))
def f_law_choices : Fn := ⟨2, 7, [], b_law_choices⟩
end Lib
end

section
set_option Elab.async false
set_option linter.all false
namespace K03
open PySem Ev

def b_law_sums : CSs := ((.cons (.set (.name 0) (.lst (.cons (.op .add (.cons (.lst (.cons (.cst (.int 1)) .nil)) (.cons (.op .mul (.cons (.lst (.cons (.cst (.int 0)) .nil)) (.cons (.cst (.int 12)) .nil))) .nil))) .nil)))
    (.cons (.for_ (.name 1) (.rng1 (.cst (.int 12))) (.cons (.append 0 (.op .add (.cons (.lst (.cons (.cst (.int 1)) .nil)) (.cons (.lc (.op .add (.cons (.op .item (.cons (.op .item (.cons (.var 0) (.cons (.op .neg (.cons (.cst (.int 1)) .nil)) .nil))) (.cons (.var 2) .nil))) (.cons (.op .item (.cons (.op .item (.cons (.var 0) (.cons (.op .neg (.cons (.cst (.int 1)) .nil)) .nil))) (.cons (.op .add (.cons (.var 2) (.cons (.cst (.int 1)) .nil))) .nil))) .nil))) (.name 2) (.rng1 (.cst (.int 12))) .nil [(Str.ofString "_law_some", 2)]) .nil))))
    .nil))
    (.cons (.ret (.var 0))
    .nil))))
def f_law_sums : Fn := ⟨0, 3, [], b_law_sums⟩
def b_law_right (c_law_choices c_law_take c_choices c_how_many : Nat) : CSs := ((.cons (.set (.name 1) (.call c_law_take (.cons (.ref 0) (.cons (.cst (.int 10)) .nil))))
    (.cons (.set (.name 2) (.call c_law_take (.cons (.ref 0) (.cons (.cst (.int 11)) .nil))))
    (.cons (.set (.name 3) (.call c_law_choices (.cons (.var 1) (.cons (.var 2) .nil))))
    (.cons (.set (.name 4) (.call c_choices (.cons (.var 1) (.cons (.var 2) .nil))))
    (.cons (.ite (.or (.not (.op (.isi "list") (.cons (.var 4) .nil))) (.or (.op .ne (.cons (.var 4) (.cons (.var 3) .nil))) (.op .ne (.cons (.call c_how_many (.cons (.var 1) (.cons (.var 2) .nil))) (.cons (.op .len (.cons (.var 3) .nil)) .nil))))) (.cons (.ret (.cst (.bool false)))
    .nil) .nil)
    (.cons (.for_ (.name 5) (.seq (.var 4)) (.cons (.ite (.or (.not (.op (.isi "tuple") (.cons (.var 5) .nil))) (.op .ne (.cons (.lc (.var 6) (.name 6) (.seq (.var 5)) (.cons (.op (.isi "bool") (.cons (.var 6) .nil)) .nil) [(Str.ofString "_law_place", 6)]) (.cons (.lst .nil) .nil)))) (.cons (.ret (.cst (.bool false)))
    .nil) .nil)
    .nil))
    (.cons (.append 4 (.cst .none))
    (.cons (.ret (.op .eq (.cons (.call c_choices (.cons (.var 1) (.cons (.var 2) .nil))) (.cons (.var 3) .nil))))
    .nil)))))))))
def f_law_right (c_law_choices c_law_take c_choices c_how_many : Nat) : Fn := ⟨1, 7, [0], b_law_right c_law_choices c_law_take c_choices c_how_many⟩
def b_law (c_law_choices c_law_pool c_law_right c_law_sums c_law_take c_choices c_how_many : Nat) : CSs := ((.cons (.for_ (.name 1) (.rng1 (.op .max2 (.cons (.cst (.int 1)) (.cons (.op .min2 (.cons (.op .len (.cons (.var 0) .nil)) (.cons (.cst (.int 20)) .nil))) .nil)))) (.cons (.ite (.not (.call c_law_right (.cons (.own (.call c_law_pool (.cons (.var 0) (.cons (.var 1) .nil)))) .nil))) (.cons (.ret (.cst (.bool false)))
    .nil) .nil)
    .nil))
    (.cons (.set (.name 2) (.call c_law_take (.cons (.own (.call c_law_pool (.cons (.var 0) (.cons (.cst (.int 0)) .nil)))) (.cons (.cst (.int 13)) .nil))))
    (.cons (.for_ (.name 3) (.seq (.lst (.cons (.cst (.int 10)) (.cons (.cst (.int 11)) (.cons (.cst (.int 12)) .nil))))) (.cons (.ite (.op .ne (.cons (.call c_choices (.cons (.var 3) (.cons (.var 2) .nil))) (.cons (.call c_law_choices (.cons (.var 3) (.cons (.var 2) .nil))) .nil))) (.cons (.ret (.cst (.bool false)))
    .nil) .nil)
    .nil))
    (.cons (.set (.name 4) (.call c_law_sums .nil))
    (.cons (.for_ (.name 3) (.rng1 (.cst (.int 13))) (.cons (.for_ (.name 2) (.rng1 (.cst (.int 13))) (.cons (.set (.name 5) (.call c_how_many (.cons (.var 3) (.cons (.var 2) .nil))))
    (.cons (.ite (.or (.not (.op (.isi "int") (.cons (.var 5) .nil))) (.or (.op (.isi "bool") (.cons (.var 5) .nil)) (.op .ne (.cons (.var 5) (.cons (.op .item (.cons (.op .item (.cons (.var 4) (.cons (.var 3) .nil))) (.cons (.var 2) .nil))) .nil))))) (.cons (.ret (.cst (.bool false)))
    .nil) .nil)
    .nil)))
    .nil))
    (.cons (.ret (.cst (.bool true)))
    .nil)))))))
def f_law (c_law_choices c_law_pool c_law_right c_law_sums c_law_take c_choices c_how_many : Nat) : Fn := ⟨1, 6, [], b_law c_law_choices c_law_pool c_law_right c_law_sums c_law_take c_choices c_how_many⟩
def T : List Fn := [(Lib.f_choices 0), Lib.f_how_many, Lib.f_law_pool, Lib.f_law_take, Lib.f_law_choices, f_law_sums, (f_law_right 4 3 0 1), (f_law 4 2 6 5 3 0 1)]
theorem T_0 : T[0]? = some (Lib.f_choices 0) := rfl
theorem T_1 : T[1]? = some Lib.f_how_many := rfl
theorem T_2 : T[2]? = some Lib.f_law_pool := rfl
theorem T_3 : T[3]? = some Lib.f_law_take := rfl
theorem T_4 : T[4]? = some Lib.f_law_choices := rfl
theorem T_5 : T[5]? = some f_law_sums := rfl
theorem T_6 : T[6]? = some (f_law_right 4 3 0 1) := rfl
theorem T_7 : T[7]? = some (f_law 4 2 6 5 3 0 1) := rfl
/-- the turns that a while may take -/
abbrev FU : Nat := 1000000000000
end K03
end

section
set_option Elab.async false
set_option linter.all false
set_option maxRecDepth 100000
/-! Plain facts about the evaluator. -/
namespace Ev
open PySem L2
section
variable {fu : Nat} {Phi : Nat → Ro → FR} {r r1 r2 : Ro}
theorem run_succ {T : List Fn} {i k : Nat} {F : Fn} {args : Ro} (h : T[i]? = some F) : run fu T (k + 1) i args = runF fu (run fu T k) F args := by simp only [run, h]
theorem exs_nil : exs fu Phi .nil r = .ok .nx r := rfl
theorem exs_nx {s : CS} {ss : CSs} (h : ex fu Phi s r = .ok .nx r1) : exs fu Phi (.cons s ss) r = exs fu Phi ss r1 := by simp only [exs, h]
theorem exs_ret {s : CS} {ss : CSs} {v : Slot} (h : ex fu Phi s r = .ok (.ret v) r1) : exs fu Phi (.cons s ss) r = .ok (.ret v) r1 := by simp only [exs, h]
theorem ite_t {c : CE} {a b : CSs} (h : (ev Phi c r).truth = .ok true r1) : ex fu Phi (.ite c a b) r = exs fu Phi a r1 := by simp only [ex, h, R.bind, if_true]
theorem ite_f {c : CE} {a b : CSs} (h : (ev Phi c r).truth = .ok false r1) : ex fu Phi (.ite c a b) r = exs fu Phi b r1 := by simp only [ex, h, R.bind, Bool.false_eq_true, if_false]
/-- a def's run, by its body's -/
theorem runF_ret {F : Fn} {args : Ro} {s : Slot} (h1 : args.length = F.np) (h2 : okArgs F.muts 0 args = true) (h : exs fu Phi F.body (args ++ List.replicate (F.nn - F.np) .non) = .ok (.ret s) r) : runF fu Phi F args = .ret s (outsOf F.muts args r) := by
  unfold runF
  rw [if_pos (by simp [h1, h2]), h]
/-- a for's turn -/
def forStep (fu : Nat) (Phi : Nat → Ro → FR) (t : CT) (b : CSs) (d : PyData) (q : Ro) : R Fl := match asg t d q with
  | some q1 => exs fu Phi b q1
  | none => .bad
theorem ex_for {t : CT} {it : CI} {b : CSs} {items : List PyData} {lks : List Lk} {f : Fl} (hI : evI Phi it r = .ok (items, lks) r1)
    (ht : turns (forStep fu Phi t b) items r1 = .ok f r2) : ex fu Phi (.for_ t it b) r = .ok f (unlks lks r2) := by
  have e : ex fu Phi (.for_ t it b) r = (evI Phi it r).bind fun x r1 => (turns (forStep fu Phi t b) x.1 r1).bind fun f r2 => .ok f (unlks x.2 r2) := by simp only [ex]; rfl
  rw [e, hI]
  simp only [R.bind, ht]
theorem forStep_at {t : CT} {b : CSs} {d : PyData} {q q1 : Ro} (h : asg t d q = some q1) : forStep fu Phi t b d q = exs fu Phi b q1 := by simp only [forStep, h]
theorem rngL_at {lo : Int} {n i : Nat} {d : PyData} (h : (rngL lo n)[i]? = some d) : i < n ∧ d = .int (lo + (i : Int)) := by
  have hi : i < n := by
    have := (List.getElem?_eq_some_iff.mp h).1
    simpa [rngL] using this
  refine ⟨hi, ?_⟩
  simp [rngL, hi] at h
  exact h.symm
/-- a comprehension's turn -/
def lcStep (Phi : Nat → Ro → FR) (elt : CE) (tg : CT) (cond : CEs) (ws : List Nat) (d : PyData) (q : Ro) : R (Option PyData) := match asg tg d (wipeR q ws) with
  | some q1 => (evC Phi cond q1).bind fun b q2 => if b = true then (ev Phi elt q2).sh.bind fun y q3 => .ok (some y) (backR q q3 ws) else .ok none (backR q q2 ws)
  | none => .bad
theorem ev_lc {elt : CE} {tg : CT} {it : CI} {cond : CEs} {own : List (Str × Nat)} {items ys : List PyData} {lks : List Lk} (hI : evI Phi it r = .ok (items, lks) r1)
    (hc : comp (lcStep Phi elt tg cond (own.map (·.2))) items [] r1 = .ok ys r2) : ev Phi (.lc elt tg it cond own) r = .ok (.lst ys) (unlks lks r2) := by
  have e : ev Phi (.lc elt tg it cond own) r = (evI Phi it r).bind fun x r1 => (comp (lcStep Phi elt tg cond (own.map (·.2))) x.1 [] r1).bind fun ys r2 => .ok (.lst ys) (unlks x.2 r2) := by simp only [ev]; rfl
  rw [e, hI]
  simp only [R.bind, hc]
theorem evI_rng2 {a b : CE} {m n : Int} (h1 : (ev Phi a r).sh = .ok (.int m) r1) (h2 : (ev Phi b r1).sh = .ok (.int n) r2) (h3 : in62 m = true) (h4 : in62 n = true) (h5 : small (n - m).toNat = true) :
    evI Phi (.rng2 a b) r = .ok (rngL m (n - m).toNat, []) r2 := by
  simp only [evI, h1, h2, R.bind]
  rw [if_pos]
  rw [h3, h4, h5]
  rfl
theorem evI_rng1 {a : CE} {n : Int} (h1 : (ev Phi a r).sh = .ok (.int n) r1) (h4 : in62 n = true) (h5 : small n.toNat = true) :
    evI Phi (.rng1 a) r = .ok (rngL 0 n.toNat, []) r1 := by
  simp only [evI, h1, R.bind]
  rw [if_pos]
  rw [h4, h5]
  rfl
theorem in62_of {n : Int} (h0 : -1000000000 ≤ n) (h1 : n ≤ 1000000000) : in62 n = true := by
  simp only [in62, Bool.and_eq_true, decide_eq_true_eq]
  omega
theorem small_of {n : Nat} (h : n ≤ 16777216) : small n = true := decide_eq_true h
/-- a for whose turns all go on -/
theorem turns_nx {step : PyData → Ro → R Fl} (P : Nat → Ro → Prop) : ∀ (items : List PyData) (i : Nat) (r : Ro), P i r → (∀ j d q, items[j]? = some d → P (i + j) q → ∃ q', step d q = .ok .nx q' ∧ P (i + j + 1) q') → ∃ r', turns step items r = .ok .nx r' ∧ P (i + items.length) r'
  | [], i, r, h, _ => ⟨r, rfl, h⟩
  | d :: ds, i, r, h, st => by
    obtain ⟨q, e, hq⟩ := st 0 d r rfl h
    obtain ⟨r', e', h'⟩ := turns_nx P ds (i + 1) q hq fun j d q hj hp => by
      have := st (j + 1) d q (by simpa using hj) (by rw [← Nat.add_assoc, Nat.add_right_comm]; exact hp)
      rw [Nat.add_right_comm i 1 j]
      exact this
    refine ⟨r', ?_, ?_⟩
    · simp only [turns, e, e']
    · rw [List.length_cons, ← Nat.add_assoc, Nat.add_right_comm]
      exact h'
/-- a comprehension whose turns leave the slots alone -/
theorem comp_fm {step : PyData → Ro → R (Option PyData)} {g : PyData → Option PyData} : ∀ (items acc : List PyData), (∀ d ∈ items, step d r = .ok (g d) r) → comp step items acc r = .ok (acc ++ items.filterMap g) r
  | [], acc, _ => by simp [comp]
  | d :: ds, acc, h => by
    have e := h d (List.mem_cons_self ..)
    have ih := fun acc => comp_fm (step := step) (g := g) ds acc fun x hx => h x (List.mem_cons_of_mem _ hx)
    cases q : g d with
    | none => simp only [comp, e, q, ih, List.filterMap_cons]
    | some y => simp only [comp, e, q, ih, List.filterMap_cons, List.append_assoc, List.singleton_append]
end
/-- a pool of a law -/
def PoolOk (l : List PyData) : Prop := ∃ c s, l = [.int c, .int s] ∧ 0 ≤ c ∧ 0 ≤ s ∧ s < 2147483647
end Ev
namespace Lib
open PySem Ev L2
section
variable {fu : Nat} {Phi : Nat → Ro → FR}
theorem take_ok {l : List PyData} {n : Int} (hl : PoolOk l) (h0 : 0 < n) (h1 : n < 1000000000000000000000000000000) :
    ∃ x l', runF fu Phi f_law_take [.lst l, .sh (.int n)] = .ret (.sh (.int x)) [.lst l', .sh (.int n)] ∧ 0 ≤ x ∧ x < n ∧ PoolOk l' := by
  obtain ⟨c, s, rfl, hc, hs, hs2⟩ := hl
  by_cases hp : 0 < c
  · refine ⟨c % n, [.int (c / n), .int s], ?_, Int.emod_nonneg _ (by omega), Int.emod_lt_of_pos _ h0, _, _, rfl, Int.ediv_nonneg hc (by omega), hs, hs2⟩
    simp [runF, f_law_take, b_law_take, exs, ex, ev, rds, R.bind, R.sh, R.truth, prim, pGt, pItem, pMod, pFdiv, getL, getV, unlks, unlk, toSh, asgN, okArgs, outsOf, hp, h0, h1, atI, ixN, List.range, List.range.loop]
  · have hs' : (s * 39373 + 11) % 2147483647 < 2147483647 := Int.emod_lt_of_pos _ (by decide)
    have hs0 : 0 ≤ (s * 39373 + 11) % 2147483647 := Int.emod_nonneg _ (by decide)
    generalize hg : (s * 39373 + 11) % 2147483647 = z at hs' hs0
    refine ⟨z * z % 2147483629 / 64 % n, [.int c, .int z], ?_, Int.emod_nonneg _ (by omega), Int.emod_lt_of_pos _ h0, _, _, rfl, hc, hs0, hs'⟩
    have b1 : s.natAbs < 18446744073709551616 := by omega
    have b2 : z.natAbs < 18446744073709551616 := by omega
    simp [runF, f_law_take, b_law_take, exs, ex, ev, rds, R.bind, R.sh, R.truth, prim, pGt, pItem, pMod, pFdiv, pMul, pAdd, getL, getV, unlks, unlk, toSh, asgN, okArgs, outsOf, hp, h0, h1, atI, ixN, List.range, List.range.loop, b1, b2, hg]
theorem pool_ok {ns : List Int} {j : Int} (h0 : 0 ≤ j) (h1 : j < 64) (hn : ns.length ≤ 63) :
    ∃ l, runF fu Phi f_law_pool [.sh (.dict [(.none, .list (ns.map PyData.int))]), .sh (.int j)] = .ret (.lst l) [.sh (.dict [(.none, .list (ns.map PyData.int))]), .sh (.int j)] ∧ PoolOk l := by
  have key : ∀ c : Int, ∃ l, PoolOk l ∧ ∀ r0 : Slot, exs fu Phi (.cons (.set (.name 3) (.op .mod (.cons (.op .mul (.cons (.op .add (.cons (.op .add (.cons (.op .mod (.cons (.var 2) (.cons (.cst (.int 1000000007)) .nil))) (.cons (.op .mul (.cons (.op .mul (.cons (.cst (.int 7368787)) (.cons (.var 1) .nil))) (.cons (.var 1) .nil))) .nil))) (.cons (.cst (.int 5)) .nil))) (.cons (.cst (.int 48271)) .nil))) (.cons (.cst (.int 2147483647)) .nil))))
      (.cons (.ite (.op .lt (.cons (.var 2) (.cons (.op .pow (.cons (.cst (.int 10)) (.cons (.cst (.int 18)) .nil))) .nil))) (.cons (.set (.name 2) (.cst (.int 0))) .nil) .nil)
      (.cons (.ret (.lst (.cons (.var 2) (.cons (.var 3) .nil)))) .nil))) [r0, .sh (.int j), .sh (.int c), .non] = .ok (.ret (.lst l)) [r0, .sh (.int j), l.headD .none |> Slot.sh, .sh (l.getD 1 .none)] := by
    intro c
    have b1 : (7368787 * j).natAbs < 18446744073709551616 := by omega
    have b0 : j.natAbs < 18446744073709551616 := by omega
    have hz : ∃ z, z = (c % 1000000007 + 7368787 * j * j + 5) * 48271 % 2147483647 ∧ 0 ≤ z ∧ z < 2147483647 := ⟨_, rfl, Int.emod_nonneg _ (by decide), Int.emod_lt_of_pos _ (by decide)⟩
    obtain ⟨z, hz, hz0, hz1⟩ := hz
    by_cases hc : c < 1000000000000000000
    · refine ⟨[.int 0, .int z], ⟨0, z, rfl, Int.le_refl 0, hz0, hz1⟩, fun r0 => ?_⟩
      simp [exs, ex, ev, evs, rds, R.bind, R.sh, R.truth, prim, pLt, pMod, pMul, pAdd, pPow, getL, getV, unlks, unlk, toSh, asgN, b0, b1, hc, hz]
    · refine ⟨[.int c, .int z], ⟨c, z, rfl, by omega, hz0, hz1⟩, fun r0 => ?_⟩
      simp [exs, ex, ev, evs, rds, R.bind, R.sh, R.truth, prim, pLt, pMod, pMul, pAdd, pPow, getL, getV, unlks, unlk, toSh, asgN, b0, b1, hc, hz]
  by_cases hj : j < (ns.length : Int)
  · have hget : atI (ns.map PyData.int) j = some (.int (ns.getD j.toNat 0)) := by
      unfold atI ixN
      have : j.toNat < ns.length := by omega
      simp [h0, hj, this]
    obtain ⟨l, hl, e⟩ := key (ns.getD j.toNat 0)
    refine ⟨l, ?_, hl⟩
    have e1 := e (.sh (.dict [(.none, .list (ns.map PyData.int))]))
    have body : exs fu Phi f_law_pool.body ([.sh (.dict [(.none, .list (ns.map PyData.int))]), .sh (.int j)] ++ List.replicate (f_law_pool.nn - f_law_pool.np) .non) = .ok (.ret (.lst l)) [.sh (.dict [(.none, .list (ns.map PyData.int))]), .sh (.int j), .sh (l.headD .none), .sh (l.getD 1 .none)] := by
      show exs fu Phi b_law_pool [.sh (.dict [(.none, .list (ns.map PyData.int))]), .sh (.int j), .non, .non] = _
      unfold b_law_pool
      refine (exs_nx (r1 := [.sh (.dict [(.none, .list (ns.map PyData.int))]), .sh (.int j), .sh (.int ns.length), .non]) (by simp [ex, ev, rds, R.bind, prim, pLen, getL, unlks, unlk, asgN])).trans ?_
      refine (exs_nx (r1 := [.sh (.dict [(.none, .list (ns.map PyData.int))]), .sh (.int j), .sh (.int (ns.getD j.toNat 0)), .non]) (by simp [exs, ex, ev, rds, R.bind, R.sh, R.truth, toSh, prim, pLen, pLt, pItem, getL, unlks, unlk, asgN, hj, hget])).trans e1
    rw [runF_ret rfl rfl body]
    simp [outsOf, f_law_pool, List.range, List.range.loop]
  · obtain ⟨l, hl, e⟩ := key ns.length
    refine ⟨l, ?_, hl⟩
    have e1 := e (.sh (.dict [(.none, .list (ns.map PyData.int))]))
    have body : exs fu Phi f_law_pool.body ([.sh (.dict [(.none, .list (ns.map PyData.int))]), .sh (.int j)] ++ List.replicate (f_law_pool.nn - f_law_pool.np) .non) = .ok (.ret (.lst l)) [.sh (.dict [(.none, .list (ns.map PyData.int))]), .sh (.int j), .sh (l.headD .none), .sh (l.getD 1 .none)] := by
      show exs fu Phi b_law_pool [.sh (.dict [(.none, .list (ns.map PyData.int))]), .sh (.int j), .non, .non] = _
      unfold b_law_pool
      refine (exs_nx (r1 := [.sh (.dict [(.none, .list (ns.map PyData.int))]), .sh (.int j), .sh (.int ns.length), .non]) (by simp [ex, ev, rds, R.bind, prim, pLen, getL, unlks, unlk, asgN])).trans ?_
      refine (exs_nx (r1 := [.sh (.dict [(.none, .list (ns.map PyData.int))]), .sh (.int j), .sh (.int ns.length), .non]) (by simp [exs, ex, ev, rds, R.bind, R.sh, R.truth, toSh, prim, pLen, pLt, pItem, getL, unlks, unlk, asgN, hj])).trans e1
    rw [runF_ret rfl rfl body]
    simp [outsOf, f_law_pool, List.range, List.range.loop]
end
end Lib
end

section
set_option linter.all false
/-! Choices of rising numbers, plain. -/
namespace Mc
/-- the whole numbers from lo on, below m -/
def rng (lo m : Int) : List Int := (List.range (m - lo).toNat).map fun (k : Nat) => lo + (k : Int)
theorem mem_rng {lo m x : Int} : x ∈ rng lo m ↔ lo ≤ x ∧ x < m := by
  unfold rng
  rw [List.mem_map]
  constructor
  · rintro ⟨k, hk, rfl⟩
    have := List.mem_range.mp hk
    omega
  · intro h
    exact ⟨(x - lo).toNat, List.mem_range.mpr (by omega), by omega⟩
theorem rng_length (lo m : Int) : (rng lo m).length = (m - lo).toNat := by simp [rng]
theorem rng_nil {lo m : Int} (h : m ≤ lo) : rng lo m = [] := by
  have : (m - lo).toNat = 0 := by omega
  simp [rng, this]
theorem rng_cons {lo m : Int} (h : lo < m) : rng lo m = lo :: rng (lo + 1) m := by
  have e : (m - lo).toNat = (m - (lo + 1)).toNat + 1 := by omega
  unfold rng
  rw [e, List.range_succ_eq_map, List.map_cons, List.map_map]
  congr 1
  · simp
  · apply List.map_congr_left
    intro k _
    simp only [Function.comp]
    omega
theorem rng_succ {lo m : Int} (h : lo ≤ m) : rng lo (m + 1) = rng lo m ++ [m] := by
  have e : (m + 1 - lo).toNat = (m - lo).toNat + 1 := by omega
  unfold rng
  rw [e, List.range_succ, List.map_append]
  congr 1
  simp
  omega
theorem rng_pairwise (lo m : Int) : (rng lo m).Pairwise (· < ·) := by
  unfold rng
  rw [List.pairwise_map]
  refine List.Pairwise.imp ?_ List.pairwise_lt_range
  intro a b h
  omega

/-- all rising lists of s numbers from lo on, below m, in their order -/
def chs (m : Int) : Nat → Int → List (List Int)
  | 0, _ => [[]]
  | s + 1, lo => (rng lo m).flatMap fun x => (chs m s (x + 1)).map (x :: ·)
/-- rising from lo on, below m -/
def Rise (m : Int) : Int → List Int → Prop
  | _, [] => True
  | lo, x :: t => lo ≤ x ∧ x < m ∧ Rise m (x + 1) t
theorem mem_chs {m : Int} : ∀ {s : Nat} {lo : Int} {t : List Int}, t ∈ chs m s lo ↔ t.length = s ∧ Rise m lo t
  | 0, lo, t => by
    unfold chs
    constructor
    · intro h; rw [List.mem_singleton] at h; subst h; exact ⟨rfl, trivial⟩
    · intro ⟨h, _⟩; rw [List.length_eq_zero_iff] at h; subst h; exact List.mem_singleton.mpr rfl
  | s + 1, lo, t => by
    unfold chs
    rw [List.mem_flatMap]
    constructor
    · rintro ⟨x, hx, ht⟩
      obtain ⟨u, hu, rfl⟩ := List.mem_map.mp ht
      obtain ⟨h1, h2⟩ := mem_chs.mp hu
      have := mem_rng.mp hx
      exact ⟨by simp [h1], this.1, this.2, h2⟩
    · intro ⟨h1, h2⟩
      cases t with
      | nil => cases h1
      | cons x u =>
        obtain ⟨a, b, c⟩ := h2
        exact ⟨x, mem_rng.mpr ⟨a, b⟩, List.mem_map.mpr ⟨u, mem_chs.mpr ⟨by simpa using h1, c⟩, rfl⟩⟩
theorem chs_pairwise {m : Int} : ∀ (s : Nat) (lo : Int), (chs m s lo).Pairwise (· < ·)
  | 0, _ => by unfold chs; exact List.pairwise_singleton _ _
  | s + 1, lo => by
    unfold chs
    rw [List.pairwise_flatMap]
    refine ⟨fun x _ => ?_, List.Pairwise.imp ?_ (rng_pairwise lo m)⟩
    · rw [List.pairwise_map]
      refine List.Pairwise.imp ?_ (chs_pairwise s (x + 1))
      intro a b h
      exact List.cons_lt_cons_iff.mpr (.inr ⟨rfl, h⟩)
    · intro a b h x hx y hy
      obtain ⟨u, _, rfl⟩ := List.mem_map.mp hx
      obtain ⟨v, _, rfl⟩ := List.mem_map.mp hy
      exact List.cons_lt_cons_iff.mpr (.inl h)
theorem nodup_of_lt {l : List (List Int)} (h : l.Pairwise (· < ·)) : l.Nodup := List.Pairwise.imp (fun h e => by subst e; exact List.lt_irrefl _ h) h
theorem chs_nodup {m : Int} (s : Nat) (lo : Int) : (chs m s lo).Nodup := nodup_of_lt (chs_pairwise s lo)

theorem rise_snoc {m : Int} : ∀ {t : List Int} {lo x : Int}, Rise m lo (t ++ [x]) ↔ Rise x lo t ∧ lo ≤ x ∧ x < m ∧ (∀ y ∈ t, y < x)
  | [], lo, x => by
    simp [Rise]
  | y :: t, lo, x => by
    simp only [List.cons_append, Rise, List.mem_cons, forall_eq_or_imp]
    rw [rise_snoc]
    constructor
    · rintro ⟨h1, h2, h3, h4, h5, h6⟩
      exact ⟨⟨h1, by omega, h3⟩, by omega, h5, by omega, h6⟩
    · rintro ⟨⟨h1, h2, h3⟩, h4, h5, h6, h7⟩
      exact ⟨h1, by omega, h3, by omega, h5, h7⟩
theorem rise_lt {m : Int} : ∀ {t : List Int} {lo : Int}, Rise m lo t → ∀ y ∈ t, lo ≤ y ∧ y < m
  | [], _, _, y, h => nomatch h
  | x :: t, lo, ⟨a, b, c⟩, y, h => by
    rcases List.mem_cons.mp h with rfl | h
    · exact ⟨a, b⟩
    · have := rise_lt c y h
      omega
theorem rise_length {m : Int} : ∀ {t : List Int} {lo : Int}, Rise m lo t → lo ≤ m → (t.length : Int) ≤ m - lo
  | [], lo, _, h => by simp; omega
  | x :: t, lo, ⟨a, b, c⟩, h => by
    have := rise_length c (by omega)
    simp only [List.length_cons]
    omega

/-- the choices by their last one -/
def byLast (s : Nat) (m : Int) : List (List Int) := (rng (s : Int) m).flatMap fun x => (chs x s 0).map (· ++ [x])
theorem byLast_mem {s : Nat} {m : Int} {t : List Int} : t ∈ byLast s m ↔ t ∈ chs m (s + 1) 0 := by
  unfold byLast
  rw [List.mem_flatMap, mem_chs]
  constructor
  · rintro ⟨x, hx, ht⟩
    obtain ⟨u, hu, rfl⟩ := List.mem_map.mp ht
    obtain ⟨h1, h2⟩ := mem_chs.mp hu
    have := mem_rng.mp hx
    refine ⟨by simp [h1], rise_snoc.mpr ⟨h2, by omega, this.2, fun y hy => (rise_lt h2 y hy).2⟩⟩
  · rintro ⟨h1, h2⟩
    have hne : t ≠ [] := by intro e; subst e; cases h1
    have e := List.dropLast_concat_getLast hne
    rw [← e] at h2
    obtain ⟨a, b, c, d⟩ := rise_snoc.mp h2
    have hl : t.dropLast.length = s := by rw [List.length_dropLast, h1]; rfl
    have := rise_length a b
    refine ⟨t.getLast hne, mem_rng.mpr ⟨by omega, c⟩, List.mem_map.mpr ⟨t.dropLast, mem_chs.mpr ⟨hl, a⟩, e⟩⟩
theorem byLast_nodup (s : Nat) (m : Int) : (byLast s m).Nodup := by
  unfold byLast List.Nodup
  rw [List.pairwise_flatMap]
  refine ⟨fun x _ => ?_, List.Pairwise.imp ?_ (rng_pairwise _ m)⟩
  · rw [List.pairwise_map]
    refine List.Pairwise.imp ?_ (chs_nodup (m := x) s 0)
    intro a b h e
    exact h (List.append_inj_left' e rfl)
  · intro a b h x hx y hy e
    obtain ⟨u, _, rfl⟩ := List.mem_map.mp hx
    obtain ⟨v, _, rfl⟩ := List.mem_map.mp hy
    have := List.append_inj_right' e rfl
    simp at this
    omega
theorem byLast_perm (s : Nat) (m : Int) : (byLast s m).Perm (chs m (s + 1) 0) := (List.perm_ext_iff_of_nodup (byLast_nodup s m) (chs_nodup _ _)).mpr fun _ => byLast_mem
/-- sorted they are the choices -/
theorem byLast_sorted (s : Nat) (m : Int) : (byLast s m).mergeSort (fun a b => decide (a ≤ b)) = chs m (s + 1) 0 := by
  refine List.Perm.eq_of_pairwise (le := fun a b => a ≤ b) ?_ ?_ ?_ ((List.mergeSort_perm _ _).trans (byLast_perm s m))
  · intro a b _ _ h1 h2
    exact List.le_antisymm h1 h2
  · refine List.Pairwise.imp ?_ (List.pairwise_mergeSort ?_ ?_ _)
    · intro a b h; exact of_decide_eq_true h
    · intro a b c h1 h2; exact decide_eq_true (List.le_trans (of_decide_eq_true h1) (of_decide_eq_true h2))
    · intro a b
      rcases List.le_total a b with h | h
      · simp [h]
      · simp [h]
  · exact List.Pairwise.imp (fun h => List.le_of_lt h) (chs_pairwise _ _)
/-- one number more behind -/
def ext (m : Int) (t : List Int) : List (List Int) := (rng ((-1 :: t).getLast (by simp) + 1) m).map fun x => t ++ [x]
theorem chs_ext {m : Int} : ∀ (s : Nat) (lo : Int), chs m (s + 1) lo = (chs m s lo).flatMap fun t => (rng (((lo - 1) :: t).getLast (by simp) + 1) m).map fun x => t ++ [x]
  | 0, lo => by
    simp only [chs, List.flatMap_cons, List.flatMap_nil, List.append_nil, List.map_cons, List.map_nil, List.getLast_singleton, List.nil_append]
    have : lo - 1 + 1 = lo := by omega
    rw [this]
    induction rng lo m with
    | nil => rfl
    | cons x l ih => simp [List.flatMap_cons, ih]
  | s + 1, lo => by
    rw [show chs m (s + 1 + 1) lo = (rng lo m).flatMap fun x => (chs m (s + 1) (x + 1)).map (x :: ·) from rfl]
    rw [show chs m (s + 1) lo = (rng lo m).flatMap fun x => (chs m s (x + 1)).map (x :: ·) from rfl]
    rw [List.flatMap_assoc]
    congr 1
    funext x
    rw [chs_ext s (x + 1), List.map_flatMap, List.flatMap_map]
    congr 1
    funext t
    rw [List.map_map]
    have e : ((lo - 1) :: x :: t).getLast (by simp) = ((x + 1 - 1) :: t).getLast (by simp) := by
      rw [List.getLast_cons (by simp)]
      congr 1
      simp
    rw [e]
    rfl
theorem chs_ext0 (m : Int) (s : Nat) : chs m (s + 1) 0 = (chs m s 0).flatMap (ext m) := chs_ext s 0
theorem chs_len_le {m : Int} : ∀ (s : Nat) (lo : Int), (chs m s lo).length ≤ 2 ^ (m - lo).toNat
  | 0, lo => by simp [chs]; exact Nat.one_le_two_pow
  | s + 1, lo => by
    by_cases h : lo < m
    · have e : chs m (s + 1) lo = (chs m s (lo + 1)).map (lo :: ·) ++ chs m (s + 1) (lo + 1) := by
        show ((rng lo m).flatMap fun x => (chs m s (x + 1)).map (x :: ·)) = _
        rw [rng_cons h, List.flatMap_cons]
        rfl
      rw [e, List.length_append, List.length_map]
      have h1 := chs_len_le (m := m) s (lo + 1)
      have h2 := chs_len_le (m := m) (s + 1) (lo + 1)
      have e2 : (m - lo).toNat = (m - (lo + 1)).toNat + 1 := by omega
      rw [e2, Nat.pow_succ]
      omega
    · have e : chs m (s + 1) lo = [] := by
        show ((rng lo m).flatMap fun x => (chs m s (x + 1)).map (x :: ·)) = _
        rw [rng_nil (by omega)]
        rfl
      rw [e]
      exact Nat.zero_le _
termination_by s lo => (s, (m - lo).toNat)
end Mc
end

section
set_option Elab.async false
set_option linter.all false
set_option maxRecDepth 100000
set_option maxHeartbeats 1000000
namespace Ev
open PySem L2
/-- a tuple of whole numbers -/
def encT (t : List Int) : PyData := .tuple (t.map PyData.int)
def encTs (l : List (List Int)) : List PyData := l.map encT
theorem encTs_append (a b : List (List Int)) : encTs (a ++ b) = encTs a ++ encTs b := List.map_append
theorem encTs_length (a : List (List Int)) : (encTs a).length = a.length := List.length_map ..
theorem rngL_eq (lo m : Int) : rngL lo (m - lo).toNat = (Mc.rng lo m).map PyData.int := by
  unfold rngL Mc.rng
  rw [List.map_map]
  rfl
theorem canLay_ints : ∀ t : List Int, PyData.canLayAll0 (t.map PyData.int) = true
  | [] => by simp [PyData.canLayAll0]
  | x :: t => by simp [PyData.canLayAll0, PyData.canLay0, canLay_ints t]
theorem depth_ints : ∀ t : List Int, PyData.depthAll (t.map PyData.int) = 0
  | [] => by simp [PyData.depthAll]
  | x :: t => by simp [PyData.depthAll, PyData.depth, depth_ints t]
theorem encT_lay (t : List Int) : (encT t).canLay0 = true := by simp [encT, PyData.canLay0, canLay_ints]
theorem encT_depth (t : List Int) : (encT t).depth = 1 := by simp [encT, PyData.depth, depth_ints]
theorem alike_ints : ∀ a b : List Int, PySem.W.alikeAll (a.map PyData.int) (b.map PyData.int) = true
  | [], _ => by simp [PySem.W.alikeAll]
  | _ :: _, [] => by simp [PySem.W.alikeAll]
  | x :: a, y :: b => by simp [PySem.W.alikeAll, PySem.W.alike, alike_ints a b]
theorem encT_alike (a b : List Int) : PySem.W.alike (encT a) (encT b) = true := by simp [encT, PySem.W.alike, alike_ints]
theorem leD_encT (a b : List Int) : leD (encT a) (encT b) = decide (a ≤ b) := by
  have := congrFun (congrFun (PySem.W.dataLe_rows (β := List Int) id) a) b
  exact this
theorem encTs_sort (l : List (List Int)) : (encTs l).mergeSort leD = encTs (l.mergeSort fun a b => decide (a ≤ b)) := by
  unfold encTs
  exact (List.map_mergeSort fun a _ b _ => (leD_encT a b).symm).symm
theorem encTs_sortB {l : List (List Int)} (h : ∀ t ∈ l, t ≠ []) : sortB (encTs l) = true := by
  unfold sortB alikeB encTs
  simp only [Bool.and_eq_true, Bool.or_eq_true, List.all_eq_true, List.mem_map, forall_exists_index, and_imp, forall_apply_eq_imp_iff₂]
  refine ⟨⟨fun a _ b _ => encT_alike a b, .inl fun a ha => ?_⟩, fun a _ => ⟨encT_lay a, by rw [encT_depth]; rfl⟩⟩
  have := h a ha
  cases a with
  | nil => exact absurd rfl this
  | cons x a => rfl
end Ev
namespace Lib
open PySem Ev L2 Mc
section
variable {fu : Nat} {T : List Fn}
theorem choices_ok {i : Nat} (hT : T[i]? = some (f_choices i)) : ∀ (s k : Nat) (m : Int), s < k → k ≤ 100 → m ≤ 23 → 0 ≤ m →
    run fu T k i [.sh (.int m), .sh (.int s)] = .ret (.lst (encTs (chs m s 0))) [.sh (.int m), .sh (.int s)] := by
  intro s
  induction s with
  | zero =>
    intro k m hk hk2 hm hm0
    obtain ⟨k, rfl⟩ : ∃ k', k = k' + 1 := ⟨k - 1, by omega⟩
    rw [run_succ hT]
    simp [runF, f_choices, b_choices, exs, ex, ev, evs, rds, R.bind, R.sh, R.truth, prim, pEq, shp, SeqAt.shaped, PyData.canLay0, PyData.depth, PyData.eqv, getL, unlks, unlk, toSh, okArgs, outsOf, List.range, List.range.loop, chs, encTs, encT]
  | succ s ih =>
    intro k m hk hk2 hm hm0
    obtain ⟨k, rfl⟩ : ∃ k', k = k' + 1 := ⟨k - 1, by omega⟩
    rw [run_succ hT]
    have body : ∃ x, exs fu (run fu T k) (f_choices i).body ([.sh (.int m), .sh (.int (s + 1 : Nat))] ++ List.replicate ((f_choices i).nn - (f_choices i).np) .non) = .ok (.ret (.lst (encTs (chs m (s + 1) 0)))) [.sh (.int m), .sh (.int (s + 1 : Nat)), .lst (encTs (byLast s m)), x, .non] := by
      show ∃ x, exs fu (run fu T k) (b_choices i) [.sh (.int m), .sh (.int (s + 1 : Nat)), .non, .non, .non] = _
      unfold b_choices
      have e1 : ∀ ss, exs fu (run fu T k) (.cons (.ite (.op .eq (.cons (.var 1) (.cons (.cst (.int 0)) .nil))) (.cons (.ret (.lst (.cons (.tup .nil) .nil))) .nil) .nil) ss) [.sh (.int m), .sh (.int (s + 1 : Nat)), .non, .non, .non] = exs fu (run fu T k) ss [.sh (.int m), .sh (.int (s + 1 : Nat)), .non, .non, .non] := fun ss => by
        refine exs_nx ?_
        rw [ite_f (r1 := [.sh (.int m), .sh (.int (s + 1 : Nat)), .non, .non, .non])]
        · rfl
        · have : ¬ ((s : Int) + 1 = 0) := by omega
          simp [ev, rds, R.bind, R.sh, R.truth, prim, pEq, shp, SeqAt.shaped, PyData.canLay0, PyData.depth, PyData.eqv, getL, unlks, unlk, toSh, this]
      rw [e1, exs_nx (r1 := [.sh (.int m), .sh (.int (s + 1 : Nat)), .lst [], .non, .non]) (by simp [ex, ev, evs, R.bind, asgN])]
      have bl : ∀ j : Nat, (s : Int) + j ≤ m → (byLast s (s + j)).length ≤ 8388608 := fun j hj => by
        rw [(byLast_perm s (s + j)).length_eq]
        refine Nat.le_trans (chs_len_le _ _) ?_
        have : ((s : Int) + j - 0).toNat ≤ 23 := by omega
        exact Nat.le_trans (Nat.pow_le_pow_right (by decide) this) (by decide)
      obtain ⟨r2, t2, x, hx⟩ := turns_nx (step := forStep fu (run fu T k) (.name 3) (.cons (.extend 2 (.lc (.op .add (.cons (.var 4) (.cons (.tup (.cons (.var 3) .nil)) .nil))) (.name 4) (.seq (.call i (.cons (.var 3) (.cons (.op .sub (.cons (.var 1) (.cons (.cst (.int 1)) .nil))) .nil)))) .nil [(Str.ofString "choice", 4)])) .nil))
        (fun j r => ∃ x, r = [.sh (.int m), .sh (.int (s + 1 : Nat)), .lst (encTs (byLast s (s + j))), x, .non]) (rngL s (m - s).toNat) 0 [.sh (.int m), .sh (.int (s + 1 : Nat)), .lst [], .non, .non] ⟨.non, by
          have : byLast s ((s : Int) + ((0 : Nat) : Int)) = [] := by
            unfold byLast
            rw [rng_nil (by omega)]
            rfl
          rw [this]
          rfl⟩ (by
          rintro j d q hj ⟨x, rfl⟩
          rw [Nat.zero_add]
          obtain ⟨hjn, rfl⟩ := rngL_at hj
          have hcall := ih k (s + j) (by omega) (by omega) (by omega) (by omega)
          have hlc : ev (run fu T k) (.lc (.op .add (.cons (.var 4) (.cons (.tup (.cons (.var 3) .nil)) .nil))) (.name 4) (.seq (.call i (.cons (.var 3) (.cons (.op .sub (.cons (.var 1) (.cons (.cst (.int 1)) .nil))) .nil)))) .nil [(Str.ofString "choice", 4)])
              [.sh (.int m), .sh (.int (s + 1 : Nat)), .lst (encTs (byLast s (s + j))), .sh (.int (s + j)), .non] = .ok (.lst (encTs ((chs (s + j) s 0).map (· ++ [(s : Int) + j])))) [.sh (.int m), .sh (.int (s + 1 : Nat)), .lst (encTs (byLast s (s + j))), .sh (.int (s + j)), .non] := by
            refine ev_lc (lks := []) (items := encTs (chs (s + j) s 0)) (r1 := [.sh (.int m), .sh (.int (s + 1 : Nat)), .lst (encTs (byLast s (s + j))), .sh (.int (s + j)), .non]) ?_ ?_
            · have e : (s : Int) + 1 - 1 = s := by omega
              simp [evI, ev, evA, rds, getL, getV, R.bind, R.sh, toSh, prim, pSub, slotOf, unlks, unlk, putBack, e, hcall, seqI]
            · rw [comp_fm (g := fun d => match d with | .tuple t => some (.tuple (t ++ [.int (s + j)])) | _ => none)]
              · rw [List.nil_append]
                congr 1
                unfold encTs
                rw [List.filterMap_map, List.map_map, ← List.filterMap_eq_map]
                congr 1
                funext t
                simp [encT]
              · intro d hd
                obtain ⟨t, ht, rfl⟩ := List.mem_map.mp hd
                have hl := (mem_chs.mp ht).1
                have hsm : t.length + 1 ≤ 16777216 := by omega
                simp [lcStep, asg, asgN, wipeR, backR, evC, ev, evs, rds, getL, getV, R.bind, R.sh, toSh, prim, pAdd, encT, unlks, unlk, small, hsm]
          refine ⟨[.sh (.int m), .sh (.int (s + 1 : Nat)), .lst (encTs (byLast s (s + (j + 1 : Nat)))), .sh (.int (s + j)), .non], ?_, _, rfl⟩
          have hsucc : byLast s (s + (j + 1 : Nat)) = byLast s (s + j) ++ (chs (s + j) s 0).map (· ++ [(s : Int) + j]) := by
            unfold byLast
            have e : (s : Int) + (j + 1 : Nat) = s + j + 1 := by omega
            rw [e, rng_succ (by omega), List.flatMap_append]
            simp
          have hb := bl (j + 1) (by omega)
          rw [hsucc, List.length_append] at hb
          rw [hsucc, encTs_append]
          have hb2 : small ((encTs (byLast s (s + j))).length + (encTs ((chs (s + j) s 0).map (· ++ [(s : Int) + j]))).length) = true := by
            rw [encTs_length, encTs_length]
            exact decide_eq_true (by omega)
          rw [forStep_at (q1 := [.sh (.int m), .sh (.int (s + 1 : Nat)), .lst (encTs (byLast s (s + j))), .sh (.int (s + j)), .non]) (by simp [asg, asgN])]
          rw [exs_nx (r1 := [.sh (.int m), .sh (.int (s + 1 : Nat)), .lst (encTs (byLast s (s + j)) ++ encTs ((chs (s + j) s 0).map (· ++ [(s : Int) + j]))), .sh (.int (s + j)), .non]) ?_]
          · rfl
          · simp only [ex, hlc]
            simp [R.sh, R.bind, toSh, hb2])
      subst hx
      have elen : (s : Int) + ((0 + (rngL s (m - s).toNat).length : Nat) : Int) = max (s : Int) m := by
        have : (rngL s (m - s).toNat).length = (m - s).toNat := by simp [rngL]
        rw [this]
        omega
      have eby : byLast s (max (s : Int) m) = byLast s m := by
        by_cases h : (s : Int) ≤ m
        · rw [Int.max_eq_right h]
        · unfold byLast
          rw [rng_nil (by omega), rng_nil (by omega)]
      rw [elen, eby] at t2
      refine ⟨x, ?_⟩
      have hI : evI (run fu T k) (.rng2 (.op .sub (.cons (.var 1) (.cons (.cst (.int 1)) .nil))) (.var 0)) [.sh (.int m), .sh (.int (s + 1 : Nat)), .lst [], .non, .non] = .ok (rngL s (m - s).toNat, []) [.sh (.int m), .sh (.int (s + 1 : Nat)), .lst [], .non, .non] := by
        refine evI_rng2 (r1 := [.sh (.int m), .sh (.int (s + 1 : Nat)), .lst [], .non, .non]) ?_ ?_ (in62_of (by omega) (by omega)) (in62_of (by omega) (by omega)) (small_of (by omega))
        · have e : (s : Int) + 1 - 1 = s := by omega
          simp [ev, rds, getL, getV, R.bind, R.sh, toSh, prim, pSub, unlks, unlk, e]
        · simp [ev, getV, R.bind, R.sh, toSh]
      rw [exs_nx (ex_for hI t2)]
      refine exs_ret ?_
      have hs : sortB (encTs (byLast s m)) = true := encTs_sortB fun t ht e => by
        subst e
        cases (mem_chs.mp (byLast_mem.mp ht)).1
      simp [ex, ev, rds, getL, R.bind, prim, pSorted, unlks, unlk, hs, encTs_sort, byLast_sorted]
    obtain ⟨x, body⟩ := body
    rw [runF_ret rfl rfl body]
    simp [outsOf, f_choices, List.range, List.range.loop]
end
end Lib
end

section
set_option Elab.async false
set_option linter.all false
set_option maxRecDepth 100000
set_option maxHeartbeats 1000000
namespace Lib
open PySem Ev L2 Mc
section
variable {fu : Nat} {Phi : Nat → Ro → FR}
def lcExt : CE := .lc (.op .add (.cons (.var 5) (.cons (.tup (.cons (.var 6) .nil)) .nil))) (.name 6) (.rng2 (.op .add (.cons (.op .item (.cons (.op .add (.cons (.lst (.cons (.op .neg (.cons (.cst (.int 1)) .nil)) .nil)) (.cons (.op .list_ (.cons (.var 5) .nil)) .nil))) (.cons (.op .neg (.cons (.cst (.int 1)) .nil)) .nil))) (.cons (.cst (.int 1)) .nil))) (.var 0)) .nil [(Str.ofString "_law_place", 6)]
theorem atI_getLast {α : Type} (a : α) (l : List α) : atI (a :: l) (-1) = some ((a :: l).getLast (by simp)) := by
  unfold atI ixN
  have h1 : ¬ (0 : Int) ≤ -1 := by decide
  have h2 : -((a :: l).length : Int) ≤ -1 := by simp only [List.length_cons]; omega
  rw [if_neg h1, if_pos h2]
  have h3 : (-1 + ((a :: l).length : Int)).toNat = (a :: l).length - 1 := by simp only [List.length_cons]; omega
  rw [h3]
  show (a :: l)[(a :: l).length - 1]? = _
  rw [List.getLast_eq_getElem]
  exact List.getElem?_eq_getElem (by simp)
theorem map_getLast (t : List Int) : (PyData.int (-1) :: t.map PyData.int).getLast (by simp) = PyData.int ((-1 :: t).getLast (by simp)) := by
  have : (PyData.int (-1) :: t.map PyData.int) = (-1 :: t).map PyData.int := rfl
  simp only [this]
  rw [List.getLast_map]
theorem lcExt_ok {m : Int} {x1 x2 x3 x4 : Slot} {t : List Int} (hm : m ≤ 23) (hm0 : 0 ≤ m) (hr : Rise m 0 t) :
    ev Phi lcExt [.sh (.int m), x1, x2, x3, x4, .sh (encT t), .non] = .ok (.lst (encTs (ext m t))) [.sh (.int m), x1, x2, x3, x4, .sh (encT t), .non] := by
  have hl := rise_length hr (by omega)
  have hlast : -1 ≤ (-1 :: t).getLast (by simp) ∧ (-1 :: t).getLast (by simp) < m := by
    have := List.getLast_mem (l := -1 :: t) (by simp)
    rcases List.mem_cons.mp this with h | h
    · omega
    · have := rise_lt hr _ h; omega
  unfold lcExt
  refine ev_lc (lks := []) (items := rngL ((-1 :: t).getLast (by simp) + 1) (m - ((-1 :: t).getLast (by simp) + 1)).toNat) (r1 := [.sh (.int m), x1, x2, x3, x4, .sh (encT t), .non]) ?_ ?_
  · refine evI_rng2 (r1 := [.sh (.int m), x1, x2, x3, x4, .sh (encT t), .non]) ?_ ?_ (in62_of (by omega) (by omega)) (in62_of (by omega) (by omega)) (small_of (by omega))
    · have hsm : small (([PyData.int (-1)] : List PyData).length + (t.map PyData.int).length) = true := small_of (by simp only [List.length_cons, List.length_nil, List.length_map]; omega)
      have hat : atI (PyData.int (-1) :: t.map PyData.int) (-1) = some (.int ((-1 :: t).getLast (by simp))) := by rw [atI_getLast, map_getLast]
      have hsm2 : small (0 + 1 + t.length) = true := by simpa using hsm
      simp only [ev, evs, rds, getL, getV, R.bind, R.sh, toSh, prim, pNeg, pList, pAdd, pItem, unlks, unlk, encT, List.getElem?_cons_succ, List.getElem?_cons_zero, List.map_cons, List.map_nil, List.length_cons, List.length_nil, List.length_map, hsm2, if_true, List.cons_append, List.nil_append, hat, Option.map_some]
    · simp [ev, getV, R.bind, R.sh, toSh]
  · rw [comp_fm (g := fun d => match d with | PyData.int x => some (PyData.tuple (t.map PyData.int ++ [.int x])) | _ => none)]
    · rw [List.nil_append]
      congr 1
      rw [rngL_eq]
      unfold encTs ext
      rw [List.filterMap_map, List.map_map]
      generalize rng _ _ = l0
      induction l0 with
      | nil => rfl
      | cons x l0 ih =>
        rw [List.filterMap_cons, List.map_cons, ← ih]
        simp [encT]
    · intro d hd
      rw [rngL_eq] at hd
      obtain ⟨x, hx, rfl⟩ := List.mem_map.mp hd
      have hsm : t.length + 1 ≤ 16777216 := by omega
      simp [lcStep, asg, asgN, wipeR, backR, evC, ev, evs, rds, getL, getV, R.bind, R.sh, toSh, prim, pAdd, encT, unlks, unlk, small, hsm]
theorem law_choices_ok {m : Int} {s : Nat} (hm : m ≤ 23) (hm0 : 0 ≤ m) (hs : s ≤ 100) :
    runF fu Phi f_law_choices [.sh (.int m), .sh (.int s)] = .ret (.lst (encTs (chs m s 0))) [.sh (.int m), .sh (.int s)] := by
  have bl : ∀ j : Nat, (chs m j 0).length ≤ 8388608 := fun j => by
    refine Nat.le_trans (chs_len_le _ _) ?_
    have : (m - 0).toNat ≤ 23 := by omega
    exact Nat.le_trans (Nat.pow_le_pow_right (by decide) this) (by decide)
  have body : ∃ x3 x4 x5, exs fu Phi f_law_choices.body ([.sh (.int m), .sh (.int s)] ++ List.replicate (f_law_choices.nn - f_law_choices.np) .non) = .ok (.ret (.lst (encTs (chs m s 0)))) [.sh (.int m), .sh (.int s), .non, x3, x4, x5, .non] := by
    show ∃ x3 x4 x5, exs fu Phi b_law_choices [.sh (.int m), .sh (.int s), .non, .non, .non, .non, .non] = _
    unfold b_law_choices
    rw [exs_nx (r1 := [.sh (.int m), .sh (.int s), .lst (encTs (chs m 0 0)), .non, .non, .non, .non]) (by simp [ex, ev, evs, R.bind, R.sh, toSh, asgN, chs, encTs, encT])]
    obtain ⟨r2, t2, x3, x4, x5, hx⟩ := turns_nx (step := forStep fu Phi (.name 3) (.cons (.set (.name 4) (.lst .nil)) (.cons (.for_ (.name 5) (.seq (.var 2)) (.cons (.extend 4 lcExt) .nil)) (.cons (.move 2 4) .nil))))
      (fun j r => ∃ x3 x4 x5, r = [.sh (.int m), .sh (.int s), .lst (encTs (chs m j 0)), x3, x4, x5, .non]) (rngL 0 s) 0 [.sh (.int m), .sh (.int s), .lst (encTs (chs m 0 0)), .non, .non, .non, .non] ⟨.non, .non, .non, rfl⟩ (by
        rintro j d q hj ⟨x3, x4, x5, rfl⟩
        rw [Nat.zero_add] at *
        obtain ⟨hjn, rfl⟩ := rngL_at hj
        rw [forStep_at (q1 := [.sh (.int m), .sh (.int s), .lst (encTs (chs m j 0)), .sh (.int (0 + j)), x4, x5, .non]) (by simp [asg, asgN])]
        rw [exs_nx (r1 := [.sh (.int m), .sh (.int s), .lst (encTs (chs m j 0)), .sh (.int (0 + j)), .lst [], x5, .non]) (by simp [ex, ev, evs, R.bind, asgN])]
        obtain ⟨r3, t3, y5, hy⟩ := turns_nx (step := forStep fu Phi (.name 5) (.cons (.extend 4 lcExt) .nil))
          (fun i r => ∃ y5, r = [.sh (.int m), .sh (.int s), .non, .sh (.int (0 + j)), .lst (encTs (((chs m j 0).take i).flatMap (ext m))), y5, .non]) (encTs (chs m j 0)) 0 [.sh (.int m), .sh (.int s), .non, .sh (.int (0 + j)), .lst [], x5, .non] ⟨x5, rfl⟩ (by
            rintro i d q hi ⟨y5, rfl⟩
            rw [Nat.zero_add] at *
            unfold encTs at hi
            rw [List.getElem?_map] at hi
            obtain ⟨t, ht, rfl⟩ := Option.map_eq_some_iff.mp hi
            have hil : i < (chs m j 0).length := (List.getElem?_eq_some_iff.mp ht).1
            have hr := (mem_chs.mp (List.mem_of_getElem? ht)).2
            rw [forStep_at (q1 := [.sh (.int m), .sh (.int s), .non, .sh (.int (0 + j)), .lst (encTs (((chs m j 0).take i).flatMap (ext m))), .sh (encT t), .non]) (by simp [asg, asgN])]
            have etake : (chs m j 0).take (i + 1) = (chs m j 0).take i ++ [t] := by
              rw [List.take_add_one, ht]
              rfl
            have hflat : ((chs m j 0).take (i + 1)).flatMap (ext m) = ((chs m j 0).take i).flatMap (ext m) ++ ext m t := by
              rw [etake, List.flatMap_append]
              simp
            have hlen : (((chs m j 0).take (i + 1)).flatMap (ext m)).length ≤ 8388608 := by
              have h1 : (((chs m j 0).take (i + 1)).flatMap (ext m)).length ≤ ((chs m j 0).flatMap (ext m)).length := by
                have := List.take_append_drop (i + 1) (chs m j 0)
                conv => rhs; rw [← this]
                rw [List.flatMap_append, List.length_append]
                omega
              rw [← chs_ext0] at h1
              exact Nat.le_trans h1 (bl (j + 1))
            refine ⟨[.sh (.int m), .sh (.int s), .non, .sh (.int (0 + j)), .lst (encTs (((chs m j 0).take (i + 1)).flatMap (ext m))), .sh (encT t), .non], ?_, _, rfl⟩
            rw [hflat, List.length_append] at hlen
            rw [hflat, encTs_append]
            have hb2 : small ((encTs (((chs m j 0).take i).flatMap (ext m))).length + (encTs (ext m t)).length) = true := by
              rw [encTs_length, encTs_length]
              exact small_of (by omega)
            rw [exs_nx (r1 := [.sh (.int m), .sh (.int s), .non, .sh (.int (0 + j)), .lst (encTs (((chs m j 0).take i).flatMap (ext m)) ++ encTs (ext m t)), .sh (encT t), .non]) ?_]
            · rfl
            · simp only [ex, lcExt_ok hm hm0 hr]
              simp [R.sh, R.bind, toSh, hb2])
        subst hy
        rw [Nat.zero_add, encTs_length, List.take_length, ← chs_ext0] at t3
        have hI : evI Phi (.seq (.var 2)) [.sh (.int m), .sh (.int s), .lst (encTs (chs m j 0)), .sh (.int (0 + j)), .lst [], x5, .non] = .ok (encTs (chs m j 0), [some (some 2, .lst (encTs (chs m j 0)))]) [.sh (.int m), .sh (.int s), .non, .sh (.int (0 + j)), .lst [], x5, .non] := by
          simp [evI, getL, R.bind, seqI]
        rw [exs_nx (ex_for hI t3)]
        refine ⟨[.sh (.int m), .sh (.int s), .lst (encTs (chs m (j + 1) 0)), .sh (.int (0 + j)), .non, y5, .non], ?_, _, _, _, rfl⟩
        simp [exs, ex, unlks, unlk, asgN])
    subst hx
    rw [Nat.zero_add] at t2
    have el : (rngL 0 s).length = s := by simp [rngL]
    rw [el] at t2
    refine ⟨x3, x4, x5, ?_⟩
    have hI : evI Phi (.rng1 (.var 1)) [.sh (.int m), .sh (.int s), .lst (encTs (chs m 0 0)), .non, .non, .non, .non] = .ok (rngL 0 s, []) [.sh (.int m), .sh (.int s), .lst (encTs (chs m 0 0)), .non, .non, .non, .non] := by
      refine evI_rng1 (n := s) ?_ (in62_of (by omega) (by omega)) (small_of (by omega))
      simp [ev, getV, R.bind, R.sh, toSh]
    have := exs_nx (ss := .cons (.ret (.var 2)) .nil) (ex_for hI t2)
    refine this.trans ?_
    simp [exs, ex, unlks, unlk]
  obtain ⟨x3, x4, x5, body⟩ := body
  rw [runF_ret rfl rfl body]
  simp [outsOf, f_law_choices, List.range, List.range.loop]
end
end Lib
end

section
set_option Elab.async false
set_option linter.all false
set_option maxRecDepth 100000
/-! Data told apart, for closed runs. -/
namespace Ev
open PySem
mutual
def sameD : PyData → PyData → Bool
  | .none, .none => true
  | .bool a, .bool b => a == b
  | .int a, .int b => decide (a = b)
  | .str a, .str b => decide (a = b)
  | .list a, .list b => sameDs a b
  | .tuple a, .tuple b => sameDs a b
  | .dict a, .dict b => sameKs a b
  | _, _ => false
def sameDs : List PyData → List PyData → Bool
  | [], [] => true
  | a :: as, b :: bs => sameD a b && sameDs as bs
  | _, _ => false
def sameKs : List (PyData × PyData) → List (PyData × PyData) → Bool
  | [], [] => true
  | (a, x) :: as, (b, y) :: bs => sameD a b && sameD x y && sameKs as bs
  | _, _ => false
end
mutual
theorem sameD_eq : ∀ a b : PyData, sameD a b = true → a = b
  | .none, b, h => by cases b <;> simp_all [sameD]
  | .bool x, b, h => by cases b <;> simp_all [sameD]
  | .int x, b, h => by cases b <;> simp_all [sameD]
  | .str x, b, h => by cases b <;> simp_all [sameD]
  | .list x, b, h => by
    cases b <;> simp [sameD] at h
    rw [sameDs_eq _ _ h]
  | .tuple x, b, h => by
    cases b <;> simp [sameD] at h
    rw [sameDs_eq _ _ h]
  | .dict x, b, h => by
    cases b <;> simp [sameD] at h
    rw [sameKs_eq _ _ h]
theorem sameDs_eq : ∀ a b : List PyData, sameDs a b = true → a = b
  | [], b, h => by cases b <;> simp_all [sameDs]
  | x :: xs, b, h => by
    cases b with
    | nil => simp [sameDs] at h
    | cons y ys =>
      simp only [sameDs, Bool.and_eq_true] at h
      rw [sameD_eq _ _ h.1, sameDs_eq _ _ h.2]
theorem sameKs_eq : ∀ a b : List (PyData × PyData), sameKs a b = true → a = b
  | [], b, h => by cases b <;> simp_all [sameKs]
  | (x, v) :: xs, b, h => by
    cases b with
    | nil => simp [sameKs] at h
    | cons y ys =>
      obtain ⟨y, w⟩ := y
      simp only [sameKs, Bool.and_eq_true] at h
      rw [sameD_eq _ _ h.1.1, sameD_eq _ _ h.1.2, sameKs_eq _ _ h.2]
end
def sameS : Slot → Slot → Bool
  | .non, .non => true
  | .sh a, .sh b => sameD a b
  | .lst a, .lst b => sameDs a b
  | _, _ => false
theorem sameS_eq : ∀ {a b : Slot}, sameS a b = true → a = b
  | .non, .non, _ => rfl
  | .sh a, .sh b, h => by rw [sameD_eq a b h]
  | .lst a, .lst b, h => by rw [sameDs_eq a b h]
def sameR : Ro → Ro → Bool
  | [], [] => true
  | a :: as, b :: bs => sameS a b && sameR as bs
  | _, _ => false
theorem sameR_eq : ∀ {a b : Ro}, sameR a b = true → a = b
  | [], [], _ => rfl
  | x :: xs, y :: ys, h => by
      simp only [sameR, Bool.and_eq_true] at h
      rw [sameS_eq h.1, sameR_eq h.2]
def sameF : FR → FR → Bool
  | .ret a r, .ret b q => sameS a b && sameR r q
  | _, _ => false
/-- a closed run, by the kernel's own counting -/
theorem sameF_eq : ∀ {a b : FR}, sameF a b = true → a = b
  | .ret a r, .ret b q, h => by
      simp only [sameF, Bool.and_eq_true] at h
      rw [sameS_eq h.1, sameR_eq h.2]
end Ev
end

section
set_option Elab.async false
set_option linter.all false
set_option maxRecDepth 100000
set_option maxHeartbeats 1000000
namespace Lib
open PySem Ev L2 Mc
theorem canLay_encTs : ∀ l : List (List Int), PyData.canLayAll0 (encTs l) = true
  | [] => rfl
  | t :: l => by
    show PyData.canLayAll0 (encT t :: encTs l) = true
    simp [PyData.canLayAll0, encT_lay, canLay_encTs l]
theorem depth_encTs : ∀ l : List (List Int), PyData.depthAll (encTs l) ≤ 1
  | [] => by simp [encTs, PyData.depthAll]
  | t :: l => by
    show PyData.depthAll (encT t :: encTs l) ≤ 1
    have := depth_encTs l
    simp only [PyData.depthAll, encT_depth]
    omega
theorem shp_encTs (l : List (List Int)) : shp (.list (encTs l)) = true := by
  have h1 : (PyData.list (encTs l)).canLay0 = true := by simp [PyData.canLay0, canLay_encTs]
  have h2 : (PyData.list (encTs l)).depth ≤ 64 := by
    have := depth_encTs l
    simp only [PyData.depth]
    omega
  unfold shp SeqAt.shaped
  rw [h1, decide_eq_true h2]
  rfl
theorem eqv_encTs (l : List (List Int)) : PyData.eqv (.list (encTs l)) (.list (encTs l)) = true := SeqAt.eqv_refl _ (SeqAt.canLay_of_shaped (shp_encTs l))
theorem pNe_encTs (l : List (List Int)) : pNe [.list (encTs l), .list (encTs l)] = some (.sh (.bool false)) := by
  simp only [pNe, shp_encTs, eqv_encTs]
  rfl
theorem pEq_encTs (l : List (List Int)) : pEq [.list (encTs l), .list (encTs l)] = some (.sh (.bool true)) := by
  simp only [pEq, shp_encTs, eqv_encTs]
  rfl
theorem pNe_int (i : Int) : pNe [.int i, .int i] = some (.sh (.bool false)) := by
  have : shp (.int i) = true := rfl
  simp only [pNe, this, SeqAt.eqv_refl (.int i) rfl]
  rfl
section
variable {fu : Nat} {Phi : Nat → Ro → FR}
/-- how many, as it is counted -/
def hmk (m s : Int) : Nat → Int
  | 0 => if s ≤ m then 1 else 0
  | j + 1 => hmk m s j * (m - (j : Int)) / ((j : Int) + 1)
theorem hm_eq : ∀ m s : Fin 13, hmk (m.val : Int) (s.val : Int) s.val = ((chs (m.val : Int) s.val 0).length : Int) := by decide +kernel
theorem how_many_ok {m s : Nat} (hm : m < 13) (hs : s < 13) :
    runF fu Phi f_how_many [.sh (.int m), .sh (.int s)] = .ret (.sh (.int (chs m s 0).length)) [.sh (.int m), .sh (.int s)] := by
  have body : ∃ x, exs fu Phi f_how_many.body ([.sh (.int m), .sh (.int s)] ++ List.replicate (f_how_many.nn - f_how_many.np) .non) = .ok (.ret (.sh (.int (chs m s 0).length))) [.sh (.int m), .sh (.int s), .sh (.int (chs m s 0).length), x] := by
    show ∃ x, exs fu Phi b_how_many [.sh (.int m), .sh (.int s), .non, .non] = _
    unfold b_how_many
    rw [exs_nx (r1 := [.sh (.int m), .sh (.int s), .sh (.int (hmk m s 0)), .non]) (by simp [ex, ev, evs, rds, getL, getV, prim, pLe, pInt, unlks, unlk, R.bind, R.sh, toSh, asgN, hmk])]
    obtain ⟨r2, t2, x, hx⟩ := turns_nx (step := forStep fu Phi (.name 3) (.cons (.set (.name 2) (.op .fdiv (.cons (.op .mul (.cons (.var 2) (.cons (.op .sub (.cons (.var 0) (.cons (.var 3) .nil))) .nil))) (.cons (.op .add (.cons (.var 3) (.cons (.cst (.int 1)) .nil))) .nil)))) .nil))
      (fun j r => ∃ x, r = [.sh (.int m), .sh (.int s), .sh (.int (hmk m s j)), x]) (rngL 0 s) 0 [.sh (.int m), .sh (.int s), .sh (.int (hmk m s 0)), .non] ⟨.non, rfl⟩ (by
        rintro j d q hj ⟨x, rfl⟩
        rw [Nat.zero_add] at *
        obtain ⟨hjn, rfl⟩ := rngL_at hj
        rw [forStep_at (q1 := [.sh (.int m), .sh (.int s), .sh (.int (hmk m s j)), .sh (.int (0 + j))]) (by simp [asg, asgN])]
        refine ⟨[.sh (.int m), .sh (.int s), .sh (.int (hmk m s (j + 1))), .sh (.int (0 + j))], ?_, _, rfl⟩
        have e1 : ((m : Int) - (j : Int)).natAbs < 18446744073709551616 := by omega
        have e2 : (0 : Int) < (j : Int) + 1 := by omega
        have e3 : (j : Int) + 1 < 1000000000000000000000000000000 := by omega
        simp [exs, ex, ev, evs, rds, getL, getV, prim, pMul, pSub, pAdd, pFdiv, unlks, unlk, R.bind, R.sh, toSh, asgN, hmk, e1, e2, e3])
    subst hx
    have el : (rngL 0 s).length = s := by simp [rngL]
    rw [Nat.zero_add, el, hm_eq ⟨m, hm⟩ ⟨s, hs⟩] at t2
    have hI : evI Phi (.rng1 (.var 1)) [.sh (.int m), .sh (.int s), .sh (.int (hmk m s 0)), .non] = .ok (rngL 0 s, []) [.sh (.int m), .sh (.int s), .sh (.int (hmk m s 0)), .non] := by
      refine evI_rng1 (n := s) ?_ (in62_of (by omega) (by omega)) (small_of (by omega))
      simp [ev, getV, R.bind, R.sh, toSh]
    refine ⟨x, ?_⟩
    have := exs_nx (ss := .cons (.ret (.var 2)) .nil) (ex_for hI t2)
    refine this.trans ?_
    simp [exs, ex, unlks, unlk]
  obtain ⟨x, body⟩ := body
  rw [runF_ret rfl rfl body]
  simp [outsOf, f_how_many, List.range, List.range.loop]
end
end Lib
namespace Ev
open PySem
section
variable {Phi : Nat → Ro → FR} {r r1 : Ro}
theorem ev_or_f {a b : CE} (h : ev Phi a r = .ok (.sh (.bool false)) r1) : ev Phi (.or a b) r = ev Phi b r1 := by
  simp only [ev, h, R.truth, R.bind, Bool.false_eq_true, if_false]
theorem ev_or_t {a b : CE} (h : ev Phi a r = .ok (.sh (.bool true)) r1) : ev Phi (.or a b) r = .ok (.sh (.bool true)) r1 := by
  simp only [ev, h, R.truth, R.bind, if_true]
theorem ev_op {o : Op} {es : CEs} {x : List (PyData × Lk)} {v : Slot} (h : rds Phi es r = .ok x r1) (hp : prim o (x.map (·.1)) = some v) : ev Phi (.op o es) r = .ok v (unlks (x.map (·.2)) r1) := by
  simp only [ev, h, R.bind, hp]
end
end Ev
namespace Ev
open PySem L2
theorem atI_nat {α : Type} (a : List α) (n : Nat) : atI a (n : Int) = a[n]? := by
  unfold atI ixN
  by_cases h : n < a.length
  · simp [h]
  · have h2 : a.length ≤ n := Nat.le_of_not_lt h
    have h3 : ¬ ((n : Int) < (a.length : Int)) := by omega
    have h4 : ¬ ((n : Int) + (a.length : Int) < 0) := by omega
    simp [h3, List.getElem?_eq_none h2]
end Ev
end

section
set_option Elab.async false
set_option linter.all false
set_option maxRecDepth 100000
set_option maxHeartbeats 1000000
namespace K03
open PySem Ev L2 Mc Lib
def rowsI : List (List Int) := (List.range 13).map fun (m : Nat) => (List.range 13).map fun (s : Nat) => ((chs m s 0).length : Int)
def rowsL : List (List Int) := [[1,0,0,0,0,0,0,0,0,0,0,0,0],[1,1,0,0,0,0,0,0,0,0,0,0,0],[1,2,1,0,0,0,0,0,0,0,0,0,0],[1,3,3,1,0,0,0,0,0,0,0,0,0],[1,4,6,4,1,0,0,0,0,0,0,0,0],[1,5,10,10,5,1,0,0,0,0,0,0,0],[1,6,15,20,15,6,1,0,0,0,0,0,0],[1,7,21,35,35,21,7,1,0,0,0,0,0],[1,8,28,56,70,56,28,8,1,0,0,0,0],[1,9,36,84,126,126,84,36,9,1,0,0,0],[1,10,45,120,210,252,210,120,45,10,1,0,0],[1,11,55,165,330,462,462,330,165,55,11,1,0],[1,12,66,220,495,792,924,792,495,220,66,12,1]]
theorem rows_eq : rowsI = rowsL := by decide +kernel
theorem sums_ok : run FU T 39 5 [] = .ret (.lst (rowsL.map fun l => .list (l.map .int))) [] := by
  refine sameF_eq ?_
  decide +kernel

section
variable {Phi : Nat → Ro → FR}
/-- what the law's own callees answer -/
structure Calls (Phi : Nat → Ro → FR) : Prop where
  take : ∀ (l : List PyData) (n : Int), PoolOk l → 0 < n → n < 1000000000000000000000000000000 → ∃ (x : Nat) (l' : List PyData), Phi 3 [.lst l, .sh (.int n)] = .ret (.sh (.int x)) [.lst l', .sh (.int n)] ∧ (x : Int) < n ∧ PoolOk l'
  ch : ∀ m s : Nat, m ≤ 23 → s ≤ 30 → Phi 0 [.sh (.int m), .sh (.int s)] = .ret (.lst (encTs (chs m s 0))) [.sh (.int m), .sh (.int s)]
  lch : ∀ m s : Nat, m ≤ 23 → s ≤ 30 → Phi 4 [.sh (.int m), .sh (.int s)] = .ret (.lst (encTs (chs m s 0))) [.sh (.int m), .sh (.int s)]
  hm : ∀ m s : Nat, m < 13 → s < 13 → Phi 1 [.sh (.int m), .sh (.int s)] = .ret (.sh (.int (chs m s 0).length)) [.sh (.int m), .sh (.int s)]
theorem right_ok (C : Calls Phi) {l : List PyData} (hl : PoolOk l) : ∃ l', runF FU Phi (f_law_right 4 3 0 1) [.lst l] = .ret (.sh (.bool true)) [.lst l'] := by
  obtain ⟨m, l1, e1, hm, hl1⟩ := C.take l 10 hl (by decide) (by decide)
  obtain ⟨s, l2, e2, hs, hl2⟩ := C.take l1 11 hl1 (by decide) (by decide)
  have c0 := C.ch m s (by omega) (by omega)
  have c4 := C.lch m s (by omega) (by omega)
  have c1 := C.hm m s (by omega) (by omega)
  have body : ∃ x4 x5 x6, exs FU Phi (f_law_right 4 3 0 1).body ([.lst l] ++ List.replicate ((f_law_right 4 3 0 1).nn - (f_law_right 4 3 0 1).np) .non) = .ok (.ret (.sh (.bool true))) [.lst l2, .sh (.int m), .sh (.int s), .lst (encTs (chs m s 0)), x4, x5, x6] := by
    show ∃ x4 x5 x6, exs FU Phi (b_law_right 4 3 0 1) [.lst l, .non, .non, .non, .non, .non, .non] = _
    unfold b_law_right
    rw [exs_nx (r1 := [.lst l1, .sh (.int m), .non, .non, .non, .non, .non]) (by simp [ex, ev, evA, getR, getV, slotOf, putBack, R.bind, R.sh, toSh, asgN, e1])]
    rw [exs_nx (r1 := [.lst l2, .sh (.int m), .sh (.int s), .non, .non, .non, .non]) (by simp [ex, ev, evA, getR, getV, slotOf, putBack, R.bind, R.sh, toSh, asgN, e2])]
    rw [exs_nx (r1 := [.lst l2, .sh (.int m), .sh (.int s), .lst (encTs (chs m s 0)), .non, .non, .non]) (by simp [ex, ev, evA, getR, getV, slotOf, putBack, R.bind, R.sh, toSh, asgN, c4])]
    rw [exs_nx (r1 := [.lst l2, .sh (.int m), .sh (.int s), .lst (encTs (chs m s 0)), .lst (encTs (chs m s 0)), .non, .non]) (by simp [ex, ev, evA, getR, getV, slotOf, putBack, R.bind, R.sh, toSh, asgN, c0])]
    rw [exs_nx (r1 := [.lst l2, .sh (.int m), .sh (.int s), .lst (encTs (chs m s 0)), .lst (encTs (chs m s 0)), .non, .non]) (by
      simp [ex, exs, ev, evA, rds, getL, getR, getV, slotOf, putBack, R.bind, R.sh, R.truth, toSh, asgN, prim, pIsi, tyD, pLen, pNe_encTs, pNe_int, encTs_length, unlks, unlk, c1])]
    obtain ⟨r2, t2, x5, x6, hx⟩ := turns_nx (step := forStep FU Phi (.name 5) (.cons (.ite (.or (.not (.op (.isi "tuple") (.cons (.var 5) .nil))) (.op .ne (.cons (.lc (.var 6) (.name 6) (.seq (.var 5)) (.cons (.op (.isi "bool") (.cons (.var 6) .nil)) .nil) [(Str.ofString "_law_place", 6)]) (.cons (.lst .nil) .nil)))) (.cons (.ret (.cst (.bool false)))
    .nil) .nil)
    .nil))
      (fun j r => ∃ x5 x6, r = [.lst l2, .sh (.int m), .sh (.int s), .lst (encTs (chs m s 0)), .non, x5, x6]) (encTs (chs m s 0)) 0 [.lst l2, .sh (.int m), .sh (.int s), .lst (encTs (chs m s 0)), .non, .non, .non] ⟨.non, .non, rfl⟩ (by
        rintro j d q hj ⟨x5, x6, rfl⟩
        unfold encTs at hj
        rw [List.getElem?_map] at hj
        obtain ⟨t, ht, rfl⟩ := Option.map_eq_some_iff.mp hj
        rw [forStep_at (q1 := [.lst l2, .sh (.int m), .sh (.int s), .lst (encTs (chs m s 0)), .non, .sh (encT t), x6]) (by simp [asg, asgN])]
        refine ⟨[.lst l2, .sh (.int m), .sh (.int s), .lst (encTs (chs m s 0)), .non, .sh (encT t), x6], ?_, _, _, rfl⟩
        have hlc : ev Phi (.lc (.var 6) (.name 6) (.seq (.var 5)) (.cons (.op (.isi "bool") (.cons (.var 6) .nil)) .nil) [(Str.ofString "_law_place", 6)]) [.lst l2, .sh (.int m), .sh (.int s), .lst (encTs (chs m s 0)), .non, .sh (encT t), x6] = .ok (.lst []) [.lst l2, .sh (.int m), .sh (.int s), .lst (encTs (chs m s 0)), .non, .sh (encT t), x6] := by
          refine (ev_lc (lks := [none]) (items := t.map PyData.int) (ys := []) (r1 := [.lst l2, .sh (.int m), .sh (.int s), .lst (encTs (chs m s 0)), .non, .sh (encT t), x6]) (r2 := [.lst l2, .sh (.int m), .sh (.int s), .lst (encTs (chs m s 0)), .non, .sh (encT t), x6]) ?_ ?_).trans ?_
          · simp [evI, getL, R.bind, seqI, encT]
          · rw [comp_fm (g := fun _ => none)]
            · simp
            · intro d hd
              obtain ⟨x, hx, rfl⟩ := List.mem_map.mp hd
              simp [lcStep, asg, asgN, wipeR, backR, evC, ev, rds, getL, getV, R.bind, R.sh, R.truth, toSh, prim, pIsi, tyD, unlks, unlk]
          · simp [unlks, unlk]
        have hne : pNe [.list [], .list []] = some (.sh (.bool false)) := pNe_encTs []
        refine (exs_nx (r1 := [.lst l2, .sh (.int m), .sh (.int s), .lst (encTs (chs m s 0)), .non, .sh (encT t), x6]) ?_).trans rfl
        rw [ite_f (r1 := [.lst l2, .sh (.int m), .sh (.int s), .lst (encTs (chs m s 0)), .non, .sh (encT t), x6])]
        · rfl
        · have hty : tyD (encT t) "tuple" = some true := rfl
          have hrd : rds Phi (.cons (.lc (.var 6) (.name 6) (.seq (.var 5)) (.cons (.op (.isi "bool") (.cons (.var 6) .nil)) .nil) [(Str.ofString "_law_place", 6)]) (.cons (.lst .nil) .nil)) [.lst l2, .sh (.int m), .sh (.int s), .lst (encTs (chs m s 0)), .non, .sh (encT t), x6] = .ok [(.list [], none), (.list [], none)] [.lst l2, .sh (.int m), .sh (.int s), .lst (encTs (chs m s 0)), .non, .sh (encT t), x6] := by
            simp only [rds]
            rw [hlc]
            simp [ev, evs, R.bind, R.sh, toSh]
          have hA : ev Phi (.not (.op (.isi "tuple") (.cons (.var 5) .nil))) [.lst l2, .sh (.int m), .sh (.int s), .lst (encTs (chs m s 0)), .non, .sh (encT t), x6] = .ok (.sh (.bool false)) [.lst l2, .sh (.int m), .sh (.int s), .lst (encTs (chs m s 0)), .non, .sh (encT t), x6] := by
            simp [ev, rds, getL, R.bind, R.truth, prim, pIsi, hty, unlks, unlk]
          rw [ev_or_f hA, ev_op (o := .ne) hrd hne]
          rfl)
    subst hx
    have hI : evI Phi (.seq (.var 4)) [.lst l2, .sh (.int m), .sh (.int s), .lst (encTs (chs m s 0)), .lst (encTs (chs m s 0)), .non, .non] = .ok (encTs (chs m s 0), [some (some 4, .lst (encTs (chs m s 0)))]) [.lst l2, .sh (.int m), .sh (.int s), .lst (encTs (chs m s 0)), .non, .non, .non] := by
      simp [evI, getL, R.bind, seqI]
    rw [exs_nx (ex_for hI t2)]
    have hbl : (chs (m : Int) s 0).length < 16777216 := by
      refine Nat.lt_of_le_of_lt (chs_len_le _ _) ?_
      have : ((m : Int) - 0).toNat ≤ 23 := by omega
      exact Nat.lt_of_le_of_lt (Nat.pow_le_pow_right (by decide) this) (by decide)
    have hsm : decide ((encTs (chs (m : Int) s 0)).length < 16777216) = true := by
      rw [encTs_length]
      exact decide_eq_true hbl
    rw [exs_nx (r1 := [.lst l2, .sh (.int m), .sh (.int s), .lst (encTs (chs m s 0)), .lst (encTs (chs m s 0) ++ [.none]), x5, x6])]
    · refine ⟨.lst (encTs (chs m s 0) ++ [.none]), x5, x6, ?_⟩
      simp [exs, ex, ev, evA, rds, getL, getR, getV, slotOf, putBack, R.bind, R.sh, toSh, prim, unlks, unlk, c0, pEq_encTs]
    · simp only [ex, ev, R.bind, R.sh, toSh, unlks, unlk, List.set_cons_succ, List.set_cons_zero, List.getElem?_cons_succ, List.getElem?_cons_zero, hsm, if_true]
  obtain ⟨x4, x5, x6, body⟩ := body
  refine ⟨l2, ?_⟩
  rw [runF_ret rfl rfl body]
  simp [outsOf, f_law_right, List.range, List.range.loop]
theorem law_ok (C : Calls Phi) (hp : ∀ (ns : List Int) (j : Nat), ns.length ≤ 63 → j < 64 → ∃ l, Phi 2 [.sh (scrD ns), .sh (.int j)] = .ret (.lst l) [.sh (scrD ns), .sh (.int j)] ∧ PoolOk l)
    (hr : ∀ l, PoolOk l → ∃ l', Phi 6 [.lst l] = .ret (.sh (.bool true)) [.lst l']) (hs : Phi 5 [] = .ret (.lst (rowsL.map fun l => .list (l.map .int))) [])
    (ns : List Int) (hn : ns.length ≤ 63) : ∃ outs, runF FU Phi (f_law 4 2 6 5 3 0 1) [.sh (scrD ns)] = .ret (.sh (.bool true)) outs := by
  have body : ∃ r, exs FU Phi (f_law 4 2 6 5 3 0 1).body ([.sh (scrD ns)] ++ List.replicate ((f_law 4 2 6 5 3 0 1).nn - (f_law 4 2 6 5 3 0 1).np) .non) = .ok (.ret (.sh (.bool true))) r := by
    show ∃ r, exs FU Phi (b_law 4 2 6 5 3 0 1) [.sh (scrD ns), .non, .non, .non, .non, .non] = _
    unfold b_law
    have hI : ∃ n : Nat, n ≤ 20 ∧ evI Phi (.rng1 (.op .max2 (.cons (.cst (.int 1)) (.cons (.op .min2 (.cons (.op .len (.cons (.var 0) .nil)) (.cons (.cst (.int 20)) .nil))) .nil)))) [.sh (scrD ns), .non, .non, .non, .non, .non] = .ok (rngL 0 n, []) [.sh (scrD ns), .non, .non, .non, .non, .non] := by
      obtain ⟨n, hn20, hn⟩ : ∃ n : Nat, n ≤ 20 ∧ (ev Phi (.op .max2 (.cons (.cst (.int 1)) (.cons (.op .min2 (.cons (.op .len (.cons (.var 0) .nil)) (.cons (.cst (.int 20)) .nil))) .nil))) [.sh (scrD ns), .non, .non, .non, .non, .non]).sh = .ok (.int (n : Int)) [.sh (scrD ns), .non, .non, .non, .non, .non] := by
        refine ⟨max 1 (min ns.length 20), by omega, ?_⟩
        have e : (if (if (20 : Int) < (ns.length : Int) then (20 : Int) else (ns.length : Int)) > 1 then (if (20 : Int) < (ns.length : Int) then (20 : Int) else (ns.length : Int)) else 1) = ((max 1 (min ns.length 20) : Nat) : Int) := by
          split <;> split <;> omega
        rw [← e]
        simp [ev, rds, getL, R.bind, R.sh, toSh, prim, pLen, pMin2, pMax2, scrD, unlks, unlk]
      refine ⟨n, hn20, ?_⟩
      have := evI_rng1 (n := (n : Int)) hn (in62_of (by omega) (by omega)) (small_of (by omega))
      simpa using this
    obtain ⟨n, hn20, hI⟩ := hI
    obtain ⟨r2, t2, x1, hx⟩ := turns_nx (step := forStep FU Phi (.name 1) (.cons (.ite (.not (.call 6 (.cons (.own (.call 2 (.cons (.var 0) (.cons (.var 1) .nil)))) .nil))) (.cons (.ret (.cst (.bool false)))
    .nil) .nil)
    .nil))
      (fun j r => ∃ x1, r = [.sh (scrD ns), x1, .non, .non, .non, .non]) (rngL 0 n) 0 [.sh (scrD ns), .non, .non, .non, .non, .non] ⟨.non, rfl⟩ (by
        rintro j d q hj ⟨x1, rfl⟩
        obtain ⟨hjn, rfl⟩ := rngL_at hj
        obtain ⟨l, hl, pl⟩ := hp ns j hn (by omega)
        obtain ⟨l', hl'⟩ := hr l pl
        rw [forStep_at (q1 := [.sh (scrD ns), .sh (.int (j : Int)), .non, .non, .non, .non]) (by simp [asg, asgN])]
        refine ⟨[.sh (scrD ns), .sh (.int (j : Int)), .non, .non, .non, .non], ?_, _, rfl⟩
        simp [exs, ex, ev, evA, getV, slotOf, putBack, R.bind, R.sh, R.truth, toSh, hl, hl'])
    subst hx
    rw [exs_nx (ex_for hI t2)]
    obtain ⟨l, hl, pl⟩ := hp ns 0 hn (by omega)
    obtain ⟨s, l', hs1, hs2, pl'⟩ := C.take l 13 pl (by decide) (by decide)
    rw [exs_nx (r1 := [.sh (scrD ns), x1, .sh (.int (s : Int)), .non, .non, .non]) (by simp at hl; simp [ex, ev, evA, getV, slotOf, putBack, R.bind, R.sh, toSh, hl, hs1, asgN, unlks, unlk])]
    have one : ∀ (m : Nat) (x3 : Slot), m ≤ 23 → forStep FU Phi (.name 3) (.cons (.ite (.op .ne (.cons (.call 0 (.cons (.var 3) (.cons (.var 2) .nil))) (.cons (.call 4 (.cons (.var 3) (.cons (.var 2) .nil))) .nil))) (.cons (.ret (.cst (.bool false))) .nil) .nil) .nil) (.int (m : Int)) [.sh (scrD ns), x1, .sh (.int (s : Int)), x3, .non, .non] = .ok .nx [.sh (scrD ns), x1, .sh (.int (s : Int)), .sh (.int (m : Int)), .non, .non] := by
      intro m x3 hm
      have c0 := C.ch m s hm (by omega)
      have c4 := C.lch m s hm (by omega)
      rw [forStep_at (q1 := [.sh (scrD ns), x1, .sh (.int (s : Int)), .sh (.int (m : Int)), .non, .non]) (by simp [asg, asgN])]
      simp [exs, ex, ev, evA, rds, getV, slotOf, putBack, R.bind, R.sh, R.truth, toSh, c0, c4, prim, pNe_encTs, unlks, unlk]
    have t3 : turns (forStep FU Phi (.name 3) (.cons (.ite (.op .ne (.cons (.call 0 (.cons (.var 3) (.cons (.var 2) .nil))) (.cons (.call 4 (.cons (.var 3) (.cons (.var 2) .nil))) .nil))) (.cons (.ret (.cst (.bool false))) .nil) .nil) .nil)) [.int 10, .int 11, .int 12] [.sh (scrD ns), x1, .sh (.int (s : Int)), .non, .non, .non] = .ok .nx [.sh (scrD ns), x1, .sh (.int (s : Int)), .sh (.int 12), .non, .non] := by
      have o10 := one 10 .non (by decide)
      have o11 := one 11 (.sh (.int 10)) (by decide)
      have o12 := one 12 (.sh (.int 11)) (by decide)
      simp only [turns]
      rw [show (PyData.int 10) = PyData.int ((10 : Nat) : Int) from rfl, o10]
      simp only
      rw [show (PyData.int 11) = PyData.int ((11 : Nat) : Int) from rfl]
      rw [show (PyData.int ((10 : Nat) : Int)) = PyData.int 10 from rfl, o11]
      simp only
      rw [show (PyData.int 12) = PyData.int ((12 : Nat) : Int) from rfl]
      rw [show (PyData.int ((11 : Nat) : Int)) = PyData.int 11 from rfl, o12]
    have hI3 : evI Phi (.seq (.lst (.cons (.cst (.int 10)) (.cons (.cst (.int 11)) (.cons (.cst (.int 12)) .nil))))) [.sh (scrD ns), x1, .sh (.int (s : Int)), .non, .non, .non] = .ok ([.int 10, .int 11, .int 12], []) [.sh (scrD ns), x1, .sh (.int (s : Int)), .non, .non, .non] := by
      simp [evI, ev, evs, R.bind, R.sh, toSh, seqI]
    rw [exs_nx (ex_for hI3 t3)]
    generalize hrows : (rowsL.map fun l => PyData.list (l.map PyData.int)) = rows at hs
    rw [exs_nx (r1 := [.sh (scrD ns), x1, .sh (.int (s : Int)), .sh (.int 12), .lst rows, .non]) (by simp [ex, ev, evA, R.bind, hs, putBack, asgN, unlks, unlk])]
    have at2 : ∀ m s : Nat, m < 13 → s < 13 → ∃ row, atI rows m = some (.list row) ∧ atI row s = some (.int ((chs m s 0).length : Int)) := by
      intro m s hm hs
      have e1 : rowsL[m]? = some ((List.range 13).map fun (s : Nat) => ((chs m s 0).length : Int)) := by
        rw [← rows_eq]
        unfold rowsI
        rw [List.getElem?_map, List.getElem?_range hm]
        rfl
      refine ⟨((List.range 13).map fun (s : Nat) => ((chs m s 0).length : Int)).map PyData.int, ?_, ?_⟩
      · subst hrows
        rw [Ev.atI_nat, List.getElem?_map, e1]
        rfl
      · rw [Ev.atI_nat, List.getElem?_map, List.getElem?_map, List.getElem?_range hs]
        rfl
    obtain ⟨r4, t4, y2, y3, y5, hy⟩ := turns_nx (step := forStep FU Phi (.name 3) (.cons (.for_ (.name 2) (.rng1 (.cst (.int 13))) (.cons (.set (.name 5) (.call 1 (.cons (.var 3) (.cons (.var 2) .nil))))
    (.cons (.ite (.or (.not (.op (.isi "int") (.cons (.var 5) .nil))) (.or (.op (.isi "bool") (.cons (.var 5) .nil)) (.op .ne (.cons (.var 5) (.cons (.op .item (.cons (.op .item (.cons (.var 4) (.cons (.var 3) .nil))) (.cons (.var 2) .nil))) .nil))))) (.cons (.ret (.cst (.bool false)))
    .nil) .nil)
    .nil)))
    .nil))
      (fun j r => ∃ y2 y3 y5, r = [.sh (scrD ns), x1, y2, y3, .lst rows, y5]) (rngL 0 13) 0 [.sh (scrD ns), x1, .sh (.int (s : Int)), .sh (.int 12), .lst rows, .non] ⟨_, _, _, rfl⟩ (by
        rintro m d q hm0 ⟨y2, y3, y5, rfl⟩
        obtain ⟨hm, rfl⟩ := rngL_at hm0
        rw [forStep_at (q1 := [.sh (scrD ns), x1, y2, .sh (.int (m : Int)), .lst rows, y5]) (by simp [asg, asgN])]
        obtain ⟨r5, t5, z2, z5, hz⟩ := turns_nx (step := forStep FU Phi (.name 2) (.cons (.set (.name 5) (.call 1 (.cons (.var 3) (.cons (.var 2) .nil))))
    (.cons (.ite (.or (.not (.op (.isi "int") (.cons (.var 5) .nil))) (.or (.op (.isi "bool") (.cons (.var 5) .nil)) (.op .ne (.cons (.var 5) (.cons (.op .item (.cons (.op .item (.cons (.var 4) (.cons (.var 3) .nil))) (.cons (.var 2) .nil))) .nil))))) (.cons (.ret (.cst (.bool false)))
    .nil) .nil)
    .nil)))
          (fun j r => ∃ z2 z5, r = [.sh (scrD ns), x1, z2, .sh (.int (m : Int)), .lst rows, z5]) (rngL 0 13) 0 [.sh (scrD ns), x1, y2, .sh (.int (m : Int)), .lst rows, y5] ⟨_, _, rfl⟩ (by
            rintro s d q hs0 ⟨z2, z5, rfl⟩
            obtain ⟨hs, rfl⟩ := rngL_at hs0
            obtain ⟨row, a1, a2⟩ := at2 m s hm hs
            have c1 := C.hm m s hm hs
            rw [forStep_at (q1 := [.sh (scrD ns), x1, .sh (.int (s : Int)), .sh (.int (m : Int)), .lst rows, z5]) (by simp [asg, asgN])]
            refine ⟨[.sh (scrD ns), x1, .sh (.int (s : Int)), .sh (.int (m : Int)), .lst rows, .sh (.int ((chs m s 0).length : Int))], ?_, _, _, rfl⟩
            rw [exs_nx (r1 := [.sh (scrD ns), x1, .sh (.int (s : Int)), .sh (.int (m : Int)), .lst rows, .sh (.int ((chs m s 0).length : Int))]) (by simp [ex, ev, evA, getV, slotOf, putBack, R.bind, R.sh, toSh, c1, asgN])]
            simp [exs, ex, ev, rds, getL, getV, R.bind, R.sh, R.truth, toSh, prim, pIsi, tyD, pItem, a1, a2, pNe_int, unlks, unlk])
        subst hz
        have hI5 : evI Phi (.rng1 (.cst (.int 13))) [.sh (scrD ns), x1, y2, .sh (.int (m : Int)), .lst rows, y5] = .ok (rngL 0 13, []) [.sh (scrD ns), x1, y2, .sh (.int (m : Int)), .lst rows, y5] := evI_rng1 (n := 13) rfl (in62_of (by decide) (by decide)) (small_of (by decide))
        refine ⟨[.sh (scrD ns), x1, z2, .sh (.int (m : Int)), .lst rows, z5], ?_, _, _, _, rfl⟩
        rw [exs_nx (ex_for hI5 t5)]
        simp [exs, unlks])
    subst hy
    have hI4 : evI Phi (.rng1 (.cst (.int 13))) [.sh (scrD ns), x1, .sh (.int (s : Int)), .sh (.int 12), .lst rows, .non] = .ok (rngL 0 13, []) [.sh (scrD ns), x1, .sh (.int (s : Int)), .sh (.int 12), .lst rows, .non] := evI_rng1 (n := 13) rfl (in62_of (by decide) (by decide)) (small_of (by decide))
    rw [exs_nx (ex_for hI4 t4)]
    exact ⟨_, rfl⟩
  obtain ⟨r, body⟩ := body
  exact ⟨_, runF_ret rfl rfl body⟩
end
theorem calls_ok (k : Nat) (hk : 31 ≤ k) (hk2 : k ≤ 90) : Calls (run FU T (k + 1)) where
  take := by
    intro l n hl h0 h1
    obtain ⟨x, l', e, hx0, hx1, hp⟩ := take_ok (fu := FU) (Phi := run FU T k) hl h0 h1
    refine ⟨x.toNat, l', ?_, ?_, hp⟩
    · rw [run_succ T_3, e, Int.toNat_of_nonneg hx0]
    · omega
  ch := by
    intro m s hm hs
    exact choices_ok T_0 s (k + 1) m (by omega) (by omega) (by omega) (by omega)
  lch := by
    intro m s hm hs
    rw [run_succ T_4]
    exact law_choices_ok (by omega) (by omega) (by omega)
  hm := by
    intro m s hm hs
    rw [run_succ T_1]
    exact how_many_ok hm hs
theorem hrun : ∀ ns : List Int, ns.length ≤ 63 → ∃ outs, Ev.run K03.FU K03.T 40 7 [.sh (Ev.scrD ns)] = .ret (.sh (.bool true)) outs := by
  intro ns hn
  rw [run_succ T_7]
  refine law_ok (calls_ok 38 (by decide) (by decide)) ?_ ?_ sums_ok ns hn
  · intro ns j hn hj
    rw [run_succ T_2]
    obtain ⟨l, e, hl⟩ := pool_ok (fu := FU) (Phi := run FU T 38) (j := (j : Int)) (by omega) (by omega) hn
    exact ⟨l, e, hl⟩
  · intro l hl
    rw [run_succ T_6]
    exact right_ok (calls_ok 37 (by decide) (by decide)) hl
end K03
end

section
set_option Elab.async false
set_option linter.all false
set_option maxRecDepth 100000
set_option maxHeartbeats 8000000
namespace K03
open PySem L2 Ev

def top (i : Nat) : Stmt := PySem.Challenge.pw_fewstand_k03_choices_told.main.body.getD i (.Pass ⟨0, 0, 0, 0⟩)
def tx : Tx := ⟨[(Str.ofString "choices"), (Str.ofString "how_many"), (Str.ofString "_law_pool"), (Str.ofString "_law_take"), (Str.ofString "_law_choices"), (Str.ofString "_law_sums"), (Str.ofString "_law_right"), (Str.ofString "law")], []⟩
def prg : Prg := ⟨⟨fun _ => 0, fun _ => (Str.ofString "")⟩, tx⟩
abbrev s0 : Stmt := top 1
abbrev N0 : List Str := [(Str.ofString "many"), (Str.ofString "some"), (Str.ofString "found"), (Str.ofString "last"), (Str.ofString "choice")]
abbrev P0 : List Str := [(Str.ofString "many"), (Str.ofString "some")]
theorem sc0 : FnScope N0 P0 (defScope s0) := ⟨rfl, rfl, rfl, by decide +kernel, rfl, by decide +kernel, by decide +kernel⟩
theorem ok0 : okSs tx N0 (defScope s0) (fun _ => true) (Lib.f_choices 0).body (defBody s0) = true := by decide +kernel
theorem mu0 : ((Lib.f_choices 0).muts.all fun i => decide (i ∉ asgds (Lib.f_choices 0).body)) = true := by decide +kernel
abbrev s1 : Stmt := top 2
abbrev N1 : List Str := [(Str.ofString "many"), (Str.ofString "some"), (Str.ofString "found"), (Str.ofString "number")]
abbrev P1 : List Str := [(Str.ofString "many"), (Str.ofString "some")]
theorem sc1 : FnScope N1 P1 (defScope s1) := ⟨rfl, rfl, rfl, by decide +kernel, rfl, by decide +kernel, by decide +kernel⟩
theorem ok1 : okSs tx N1 (defScope s1) (fun _ => true) Lib.f_how_many.body (defBody s1) = true := by decide +kernel
theorem mu1 : (Lib.f_how_many.muts.all fun i => decide (i ∉ asgds Lib.f_how_many.body)) = true := by decide +kernel
abbrev s2 : Stmt := top 4
abbrev N2 : List Str := [(Str.ofString "_law_script"), (Str.ofString "_law_k"), (Str.ofString "_law_cell"), (Str.ofString "_law_seed")]
abbrev P2 : List Str := [(Str.ofString "_law_script"), (Str.ofString "_law_k")]
theorem sc2 : FnScope N2 P2 (defScope s2) := ⟨rfl, rfl, rfl, by decide +kernel, rfl, by decide +kernel, by decide +kernel⟩
theorem ok2 : okSs tx N2 (defScope s2) (fun _ => true) Lib.f_law_pool.body (defBody s2) = true := by decide +kernel
theorem mu2 : (Lib.f_law_pool.muts.all fun i => decide (i ∉ asgds Lib.f_law_pool.body)) = true := by decide +kernel
abbrev s3 : Stmt := top 5
abbrev N3 : List Str := [(Str.ofString "_law_pool_here"), (Str.ofString "_law_many"), (Str.ofString "_law_found")]
abbrev P3 : List Str := [(Str.ofString "_law_pool_here"), (Str.ofString "_law_many")]
theorem sc3 : FnScope N3 P3 (defScope s3) := ⟨rfl, rfl, rfl, by decide +kernel, rfl, by decide +kernel, by decide +kernel⟩
theorem ok3 : okSs tx N3 (defScope s3) (fun _ => true) Lib.f_law_take.body (defBody s3) = true := by decide +kernel
theorem mu3 : (Lib.f_law_take.muts.all fun i => decide (i ∉ asgds Lib.f_law_take.body)) = true := by decide +kernel
abbrev s4 : Stmt := top 6
abbrev N4 : List Str := [(Str.ofString "_law_many"), (Str.ofString "_law_some"), (Str.ofString "_law_found"), (Str.ofString "_law_turn"), (Str.ofString "_law_more"), (Str.ofString "_law_one"), (Str.ofString "_law_place")]
abbrev P4 : List Str := [(Str.ofString "_law_many"), (Str.ofString "_law_some")]
theorem sc4 : FnScope N4 P4 (defScope s4) := ⟨rfl, rfl, rfl, by decide +kernel, rfl, by decide +kernel, by decide +kernel⟩
theorem ok4 : okSs tx N4 (defScope s4) (fun _ => true) Lib.f_law_choices.body (defBody s4) = true := by decide +kernel
theorem mu4 : (Lib.f_law_choices.muts.all fun i => decide (i ∉ asgds Lib.f_law_choices.body)) = true := by decide +kernel
abbrev s5 : Stmt := top 7
abbrev N5 : List Str := [(Str.ofString "_law_rows"), (Str.ofString "_law_many"), (Str.ofString "_law_some")]
abbrev P5 : List Str := []
theorem sc5 : FnScope N5 P5 (defScope s5) := ⟨rfl, rfl, rfl, by decide +kernel, rfl, by decide +kernel, by decide +kernel⟩
theorem ok5 : okSs tx N5 (defScope s5) (fun _ => true) f_law_sums.body (defBody s5) = true := by decide +kernel
theorem mu5 : (f_law_sums.muts.all fun i => decide (i ∉ asgds f_law_sums.body)) = true := by decide +kernel
abbrev s6 : Stmt := top 8
abbrev N6 : List Str := [(Str.ofString "_law_pool_here"), (Str.ofString "_law_many"), (Str.ofString "_law_some"), (Str.ofString "_law_due"), (Str.ofString "_law_found"), (Str.ofString "_law_one"), (Str.ofString "_law_place")]
abbrev P6 : List Str := [(Str.ofString "_law_pool_here")]
theorem sc6 : FnScope N6 P6 (defScope s6) := ⟨rfl, rfl, rfl, by decide +kernel, rfl, by decide +kernel, by decide +kernel⟩
theorem ok6 : okSs tx N6 (defScope s6) (fun _ => true) (f_law_right 4 3 0 1).body (defBody s6) = true := by decide +kernel
theorem mu6 : ((f_law_right 4 3 0 1).muts.all fun i => decide (i ∉ asgds (f_law_right 4 3 0 1).body)) = true := by decide +kernel
abbrev s7 : Stmt := top 9
abbrev N7 : List Str := [(Str.ofString "_law_script"), (Str.ofString "_law_k"), (Str.ofString "_law_some"), (Str.ofString "_law_many"), (Str.ofString "_law_sums_here"), (Str.ofString "_law_found")]
abbrev P7 : List Str := [(Str.ofString "_law_script")]
theorem sc7 : FnScope N7 P7 (defScope s7) := ⟨rfl, rfl, rfl, by decide +kernel, rfl, by decide +kernel, by decide +kernel⟩
theorem ok7 : okSs tx N7 (defScope s7) (fun _ => true) (f_law 4 2 6 5 3 0 1).body (defBody s7) = true := by decide +kernel
theorem mu7 : ((f_law 4 2 6 5 3 0 1).muts.all fun i => decide (i ∉ asgds (f_law 4 2 6 5 3 0 1).body)) = true := by decide +kernel
theorem all_mk {l : PySem.W.OpenLaw} {w : World} {K : PySem.W.Frag} {h : Heap} {mg : Str → Option Value} {fa f0 f1 f2 f3 f4 f5 f6 f7 : Addr} (X : K.In h) (G : h.Ns mainGlobals mg) (hfa : mg (Str.ofString "law") = some (.ref fa))
    {od0 an0 od1 an1 od2 an2 od3 an3 od4 an4 od5 an5 od6 an6 od7 an7 : Option Addr} {sl0 sl1 sl2 sl3 sl4 sl5 sl6 sl7 : Array (Option Value)} {oc0 kV0 dc0 pm0 cd0 ct0 oc1 kV1 dc1 pm1 cd1 ct1 oc2 kV2 dc2 pm2 cd2 ct2 oc3 kV3 dc3 pm3 cd3 ct3 oc4 kV4 dc4 pm4 cd4 ct4 oc5 kV5 dc5 pm5 cd5 ct5 oc6 kV6 dc6 pm6 cd6 ct6 oc7 kV7 dc7 pm7 cd7 ct7 : Value}
    (a0 : PySem.W.nsIn K mainGlobals (Str.ofString "choices") = some (some (.ref f0))) (l0 : K.lookup f0 = some ⟨oc0, od0, .func (PySem.W.fnOf (Str.ofString "choices") (Str.ofString "choices") (defArgs s0) (defBody s0) (defScope s0) .none kV0 dc0 pm0 an0 cd0 ct0), sl0⟩) (c0 : PySem.W.codeIn K cd0 (Str.ofString "choices") = true) (k0 : PySem.W.keepIn K (.ref f0) = true)
    (a1 : PySem.W.nsIn K mainGlobals (Str.ofString "how_many") = some (some (.ref f1))) (l1 : K.lookup f1 = some ⟨oc1, od1, .func (PySem.W.fnOf (Str.ofString "how_many") (Str.ofString "how_many") (defArgs s1) (defBody s1) (defScope s1) .none kV1 dc1 pm1 an1 cd1 ct1), sl1⟩) (c1 : PySem.W.codeIn K cd1 (Str.ofString "how_many") = true) (k1 : PySem.W.keepIn K (.ref f1) = true)
    (a2 : PySem.W.nsIn K mainGlobals (Str.ofString "_law_pool") = some (some (.ref f2))) (l2 : K.lookup f2 = some ⟨oc2, od2, .func (PySem.W.fnOf (Str.ofString "_law_pool") (Str.ofString "_law_pool") (defArgs s2) (defBody s2) (defScope s2) .none kV2 dc2 pm2 an2 cd2 ct2), sl2⟩) (c2 : PySem.W.codeIn K cd2 (Str.ofString "_law_pool") = true) (k2 : PySem.W.keepIn K (.ref f2) = true)
    (a3 : PySem.W.nsIn K mainGlobals (Str.ofString "_law_take") = some (some (.ref f3))) (l3 : K.lookup f3 = some ⟨oc3, od3, .func (PySem.W.fnOf (Str.ofString "_law_take") (Str.ofString "_law_take") (defArgs s3) (defBody s3) (defScope s3) .none kV3 dc3 pm3 an3 cd3 ct3), sl3⟩) (c3 : PySem.W.codeIn K cd3 (Str.ofString "_law_take") = true) (k3 : PySem.W.keepIn K (.ref f3) = true)
    (a4 : PySem.W.nsIn K mainGlobals (Str.ofString "_law_choices") = some (some (.ref f4))) (l4 : K.lookup f4 = some ⟨oc4, od4, .func (PySem.W.fnOf (Str.ofString "_law_choices") (Str.ofString "_law_choices") (defArgs s4) (defBody s4) (defScope s4) .none kV4 dc4 pm4 an4 cd4 ct4), sl4⟩) (c4 : PySem.W.codeIn K cd4 (Str.ofString "_law_choices") = true) (k4 : PySem.W.keepIn K (.ref f4) = true)
    (a5 : PySem.W.nsIn K mainGlobals (Str.ofString "_law_sums") = some (some (.ref f5))) (l5 : K.lookup f5 = some ⟨oc5, od5, .func (PySem.W.fnOf (Str.ofString "_law_sums") (Str.ofString "_law_sums") (defArgs s5) (defBody s5) (defScope s5) .none kV5 dc5 pm5 an5 cd5 ct5), sl5⟩) (c5 : PySem.W.codeIn K cd5 (Str.ofString "_law_sums") = true) (k5 : PySem.W.keepIn K (.ref f5) = true)
    (a6 : PySem.W.nsIn K mainGlobals (Str.ofString "_law_right") = some (some (.ref f6))) (l6 : K.lookup f6 = some ⟨oc6, od6, .func (PySem.W.fnOf (Str.ofString "_law_right") (Str.ofString "_law_right") (defArgs s6) (defBody s6) (defScope s6) .none kV6 dc6 pm6 an6 cd6 ct6), sl6⟩) (c6 : PySem.W.codeIn K cd6 (Str.ofString "_law_right") = true) (k6 : PySem.W.keepIn K (.ref f6) = true)
    (a7 : PySem.W.nsIn K mainGlobals (Str.ofString "law") = some (some (.ref f7))) (l7 : K.lookup f7 = some ⟨oc7, od7, .func (PySem.W.fnOf (Str.ofString "law") (Str.ofString "law") (defArgs s7) (defBody s7) (defScope s7) .none kV7 dc7 pm7 an7 cd7 ct7), sl7⟩) (c7 : PySem.W.codeIn K cd7 (Str.ofString "law") = true) (k7 : PySem.W.keepIn K (.ref f7) = true)
    (z0 : PySem.W.nsIn K mainGlobals (Str.ofString "len") = some none)
    (z1 : PySem.W.nsIn K mainGlobals (Str.ofString "max") = some none)
    (z2 : PySem.W.nsIn K mainGlobals (Str.ofString "min") = some none)
    (z3 : PySem.W.nsIn K mainGlobals (Str.ofString "list") = some none)
    (z4 : PySem.W.nsIn K mainGlobals (Str.ofString "tuple") = some none)
    (z5 : PySem.W.nsIn K mainGlobals (Str.ofString "int") = some none)
    (z6 : PySem.W.nsIn K mainGlobals (Str.ofString "range") = some none)
    (z7 : PySem.W.nsIn K mainGlobals (Str.ofString "sorted") = some none)
    (z8 : PySem.W.nsIn K mainGlobals (Str.ofString "isinstance") = some none)
    (z9 : PySem.W.nsIn K mainGlobals (Str.ofString "bool") = some none)
    (z10 : PySem.W.nsIn K mainGlobals (Str.ofString "str") = some none)
    (z11 : PySem.W.nsIn K mainGlobals (Str.ofString "dict") = some none)
    : ∃ fd : FuncData, (∀ (s : Shared) (v : Value), BindsTo s fd ⟨[v], []⟩ [((Str.ofString "_law_script"), v)]) ∧ ∀ base : Heap, K.In base → base.Ns mainGlobals mg → FnOk l.prog w K mg base (L2.CX l.prog w) 40 fa fd [(Str.ofString "_law_script")] (spF prg.errs K (run FU T 40 7)) := by
  have e := hfa.symm.trans (PySem.W.mg_of X G a7)
  cases e
  have F0 := fun_mk (st := s0) l0 c0 k0
  have b0 := F0.binds (ps := P0) fun _ _ _ _ _ _ us hl => match us, hl with | [_, _], _ => rfl
  have F1 := fun_mk (st := s1) l1 c1 k1
  have b1 := F1.binds (ps := P1) fun _ _ _ _ _ _ us hl => match us, hl with | [_, _], _ => rfl
  have F2 := fun_mk (st := s2) l2 c2 k2
  have b2 := F2.binds (ps := P2) fun _ _ _ _ _ _ us hl => match us, hl with | [_, _], _ => rfl
  have F3 := fun_mk (st := s3) l3 c3 k3
  have b3 := F3.binds (ps := P3) fun _ _ _ _ _ _ us hl => match us, hl with | [_, _], _ => rfl
  have F4 := fun_mk (st := s4) l4 c4 k4
  have b4 := F4.binds (ps := P4) fun _ _ _ _ _ _ us hl => match us, hl with | [_, _], _ => rfl
  have F5 := fun_mk (st := s5) l5 c5 k5
  have b5 := F5.binds (ps := P5) fun _ _ _ _ _ _ us hl => match us, hl with | [], _ => rfl
  have F6 := fun_mk (st := s6) l6 c6 k6
  have b6 := F6.binds (ps := P6) fun _ _ _ _ _ _ us hl => match us, hl with | [_], _ => rfl
  have F7 := fun_mk (st := s7) l7 c7 k7
  have b7 := F7.binds (ps := P7) fun _ _ _ _ _ _ us hl => match us, hl with | [_], _ => rfl
  have blt : ∀ x ∈ bnames, mg x = none := by
    intro x hx
    simp only [bnames, List.mem_cons, List.not_mem_nil, or_false] at hx
    rcases hx with rfl | rfl | rfl | rfl | rfl | rfl | rfl | rfl | rfl | rfl | rfl | rfl
    · exact PySem.W.mg_none_of X G z0
    · exact PySem.W.mg_none_of X G z1
    · exact PySem.W.mg_none_of X G z2
    · exact PySem.W.mg_none_of X G z3
    · exact PySem.W.mg_none_of X G z4
    · exact PySem.W.mg_none_of X G z5
    · exact PySem.W.mg_none_of X G z6
    · exact PySem.W.mg_none_of X G z7
    · exact PySem.W.mg_none_of X G z8
    · exact PySem.W.mg_none_of X G z9
    · exact PySem.W.mg_none_of X G z10
    · exact PySem.W.mg_none_of X G z11
  have csts : ∀ x d, tx.consts.lookup x = some d → ∃ u, mg x = some u ∧ match d with | .int j => ∃ t, u = .int j t | .str j => ∃ t, u = .str j t | _ => True := by
    intro x d hx
    cases hx
  have tab : ∀ (i : Nat) (x : Str), prg.tx.names[i]? = some x → ∃ F, T[i]? = some F ∧ FnAt prg K mg F x := by
    intro i x hx
    match i, hx with
    | 0, hx => cases hx; exact ⟨(Lib.f_choices 0), rfl, (Str.ofString "choices"), s0, _, _, P0, N0, F0, sc0, ok0, rfl, rfl, mu0, PySem.W.mg_of X G a0, b0⟩
    | 1, hx => cases hx; exact ⟨Lib.f_how_many, rfl, (Str.ofString "how_many"), s1, _, _, P1, N1, F1, sc1, ok1, rfl, rfl, mu1, PySem.W.mg_of X G a1, b1⟩
    | 2, hx => cases hx; exact ⟨Lib.f_law_pool, rfl, (Str.ofString "_law_pool"), s2, _, _, P2, N2, F2, sc2, ok2, rfl, rfl, mu2, PySem.W.mg_of X G a2, b2⟩
    | 3, hx => cases hx; exact ⟨Lib.f_law_take, rfl, (Str.ofString "_law_take"), s3, _, _, P3, N3, F3, sc3, ok3, rfl, rfl, mu3, PySem.W.mg_of X G a3, b3⟩
    | 4, hx => cases hx; exact ⟨Lib.f_law_choices, rfl, (Str.ofString "_law_choices"), s4, _, _, P4, N4, F4, sc4, ok4, rfl, rfl, mu4, PySem.W.mg_of X G a4, b4⟩
    | 5, hx => cases hx; exact ⟨f_law_sums, rfl, (Str.ofString "_law_sums"), s5, _, _, P5, N5, F5, sc5, ok5, rfl, rfl, mu5, PySem.W.mg_of X G a5, b5⟩
    | 6, hx => cases hx; exact ⟨(f_law_right 4 3 0 1), rfl, (Str.ofString "_law_right"), s6, _, _, P6, N6, F6, sc6, ok6, rfl, rfl, mu6, PySem.W.mg_of X G a6, b6⟩
    | 7, hx => cases hx; exact ⟨(f_law 4 2 6 5 3 0 1), rfl, (Str.ofString "law"), s7, _, _, P7, N7, F7, sc7, ok7, rfl, rfl, mu7, PySem.W.mg_of X G a7, b7⟩
    | n + 8, hx => cases hx
  refine ⟨PySem.W.fnOf (Str.ofString "law") (Str.ofString "law") (defArgs s7) (defBody s7) (defScope s7) .none kV7 dc7 pm7 an7 cd7 ct7, fun s v => .of_eq rfl, fun base _ _ => ?_⟩
  have q := fn_sound (P := prg) (fu := FU) (pr := l.prog) (w := w) (base := base) (k := 39) (Phi := run FU T 39) F7 sc7 ok7 rfl rfl (fun i q => of_decide_eq_true (List.all_eq_true.mp mu7 i q)) blt (table_sound blt csts tab 39) csts
  have er : run FU T 40 7 = runF FU (run FU T 39) (f_law 4 2 6 5 3 0 1) := by funext args; rfl
  rw [er]
  exact q
theorem walk {l : PySem.W.OpenLaw} {q : Program} {loose : List Str} {XP : (Str → Option Value) → Heap → Prop} {YP : World → Heap → Prop} {d : DefRec} {K : Params → PySem.W.Frag} (hn : l.most = some 63) (hdf : d.params.defaults = [])
    (hY : ∀ (w : World) (h : Heap), YP w h → (K w.params).In h)
    (hrun : ∀ ns : List Int, ns.length ≤ 63 → ∃ outs, run FU T 40 7 [.sh (scrD ns)] = .ret (.sh (.bool true)) outs)
    (F : ∀ (w : World) (mg : Str → Option Value) (fa : Addr) (h : Heap), (K w.params).In h → h.Ns mainGlobals mg → mg d.name = some (.ref fa) →
      ∃ fd : FuncData, (∀ (s : Shared) (u : Value), BindsTo s fd ⟨[u], []⟩ [((Str.ofString "_law_script"), u)]) ∧ ∀ base : Heap, (K w.params).In base → base.Ns mainGlobals mg → FnOk l.prog w (K w.params) mg base (L2.CX l.prog w) 40 fa fd [(Str.ofString "_law_script")] (spF prg.errs (K w.params) (run FU T 40 7))) :
    PySem.W.WalkO q loose XP YP l.row.toRowW d [] (fun f vs => PySem.call f vs) :=
  L2.walk_of (n := 63) (k := 40) (x := (Str.ofString "_law_script")) (CX := fun w => L2.CX l.prog w) (sp := fun w => spF prg.errs (K w.params) (run FU T 40 7)) hn (by decide) hdf ⟨rfl, by decide, by decide⟩ hY F (fun w H a ns hl _ hS => law_start (P := prg) hS (hrun ns hl)) fun w H s e s' z => cx_none z
end K03
open PySem PySem.W PyProof.Rows
set_option maxRecDepth 100000 in
set_option maxHeartbeats 0 in
theorem PySem.Challenge.cw_fewstand_k03_choices_told_holds : PySem.Challenge.rw_fewstand_k03_choices_told.Holds := by
  w_on; o_law; k_head; (case hw => w_witness2)
  k_fill
  refine K03.walk (l := PySem.Challenge.rw_fewstand_k03_choices_told) rfl rfl (fun w h Y => PySem.W.kIn_of Y) K03.hrun ?F
  case F =>
    intro w mg fa h KX G hmg
    refine' K03.all_mk KX G hmg ?a0 ?l0 ?c0 ?k0 ?a1 ?l1 ?c1 ?k1 ?a2 ?l2 ?c2 ?k2 ?a3 ?l3 ?c3 ?k3 ?a4 ?l4 ?c4 ?k4 ?a5 ?l5 ?c5 ?k5 ?a6 ?l6 ?c6 ?k6 ?a7 ?l7 ?c7 ?k7 ?z0 ?z1 ?z2 ?z3 ?z4 ?z5 ?z6 ?z7 ?z8 ?z9 ?z10 ?z11
    (case a0 => k_is)
    (case l0 => k_is)
    (case c0 => k_is)
    (case k0 => k_is)
    (case a1 => k_is)
    (case l1 => k_is)
    (case c1 => k_is)
    (case k1 => k_is)
    (case a2 => k_is)
    (case l2 => k_is)
    (case c2 => k_is)
    (case k2 => k_is)
    (case a3 => k_is)
    (case l3 => k_is)
    (case c3 => k_is)
    (case k3 => k_is)
    (case a4 => k_is)
    (case l4 => k_is)
    (case c4 => k_is)
    (case k4 => k_is)
    (case a5 => k_is)
    (case l5 => k_is)
    (case c5 => k_is)
    (case k5 => k_is)
    (case a6 => k_is)
    (case l6 => k_is)
    (case c6 => k_is)
    (case k6 => k_is)
    (case a7 => k_is)
    (case l7 => k_is)
    (case c7 => k_is)
    (case k7 => k_is)
    (case z0 => k_is)
    (case z1 => k_is)
    (case z2 => k_is)
    (case z3 => k_is)
    (case z4 => k_is)
    (case z5 => k_is)
    (case z6 => k_is)
    (case z7 => k_is)
    (case z8 => k_is)
    (case z9 => k_is)
    (case z10 => k_is)
    (case z11 => k_is)
end
