import PyProof.Rows.All
import Wide.All
import OpenK.AllK
import Wide.FinOn
import PyProof.EqLayable
import KE.LtData
import KE.DataMinMax
import HandS.ForMost
import HandS.Deep
import HandS.Lambda
import HandS.Flow
import HandS.TupAny
import HandS.TupMul
import HandS.Wide
import KE.DataCmp
import HandS.IsInst
import HandS.Keys
import HandS.DictTup
import KE.SortData
import HandS.Iter
import HandS.Comp
import HandS.Defaults
import HandS.Small
import PyProof.FactsAll.list_0
import HandS.GenList
import HandS.AnyAll
import PyProof.GenCompD
import HandS.Zip
import HandS.Rev
import HandS.Conv
import HandS.Strs
import HandS.Style
import HandS.Set
import HandS.SetFor
import HandS.DictComp
import HandS.More
import HandS.HeadHook4
import HandS.HeadWalk
import HandS.TupSets
import KE.KStateDown
import HandS.Head0
import HandS.Head1
import HandS.Head2
import HandS.HeadEnd
import HandS.HeadHook1
import HandS.HeadHook2
import HandS.HeadHook3
import PySem.Challenge.RW_runwarden_k94_whole_rules_as_parcels
section
set_option autoImplicit false
set_option linter.all false
/-! DSem: what the defs of the program compute, over plain data (PyData), as functions; no heap, no model. -/
namespace Dm
open PySem PySem.W
abbrev D := PyData

/-- what a name holds: nothing, a datum that never changes, a list or dict of the def's own that it may change -/
inductive Slot where
  | no
  | va (d : D)
  | ow (d : D)
abbrev Env := List Slot
inductive Res where
  | nx (r : Env)
  | rt (d : D)
  | bk (r : Env)
  | ct (r : Env)
abbrev E := Env → Option D
abbrev T := Env → Option Bool
abbrev S := Env → Option Res
abbrev I := Env → Option (List D)

/-! ### data -/
def truD : D → Option Bool
  | .none => some false
  | .bool b => some b
  | .int i => some (i != 0)
  | .str x => if x.length ≤ sizeLine then some (x.length != 0) else none
  | .list xs => some (!xs.isEmpty)
  | .tuple xs => some (!xs.isEmpty)
  | .dict _ => none
def lenOk (n : Nat) : Bool := decide (n ≤ 16777216)
def addD : D → D → Option D
  | .int a, .int b => some (.int (a + b))
  | .tuple xs, .tuple ys => if lenOk (xs.length + ys.length) then some (.tuple (xs ++ ys)) else none
  | .list xs, .list ys => if lenOk (xs.length + ys.length) then some (.list (xs ++ ys)) else none
  | _, _ => none
def subD : D → D → Option D
  | .int a, .int b => some (.int (a - b))
  | _, _ => none
/-- one factor below 2 ^ 64 -/
def small64 (a : Int) : Bool := decide (-(2 ^ 64) < a ∧ a < 2 ^ 64)
/-- a * b of ints -/
def mulI (a b : D) : Option D := match a, b with
  | .int i, .int j => if small64 i || small64 j then some (.int (i * j)) else none
  | _, _ => none
/-- [..] * k -/
def repL (a b : D) : Option D := match a, b with
  | .list xs, .int k => if lenOk (xs.length * k.toNat) && decide (-(2 ^ 63) ≤ k ∧ k < 2 ^ 63) then some (.list (List.replicate k.toNat xs).flatten) else none
  | _, _ => none
/-- (..) * k -/
def repT (a b : D) : Option D := match a, b with
  | .tuple xs, .int k => if decide (xs.length ≤ 1000 ∧ 1 ≤ k ∧ k ≤ 1000) && !xs.isEmpty then some (.tuple (List.replicate k.toNat xs).flatten) else none
  | _, _ => none
def fdivD : D → D → Option D
  | .int a, .int b => if decide (b ≠ 0 ∧ b.natAbs < 1073741824) then some (.int (a.fdiv b)) else none
  | _, _ => none
def modD : D → D → Option D
  | .int a, .int b => if decide (b ≠ 0) then some (.int (a.fmod b)) else none
  | _, _ => none
def powD : D → D → Option D
  | .int a, .int b => if decide (0 ≤ b ∧ b ≤ 1000000 ∧ a.natAbs < 2 ^ 64) then some (.int (a ^ b.toNat)) else none
  | _, _ => none
def negD : D → Option D
  | .int a => some (.int (-a))
  | _ => none
def plain (d : D) : Bool := SeqAt.shaped d
def eqD (a b : D) : Option D := if plain a && plain b then some (.bool (PyData.eqv a b)) else none
def neD (a b : D) : Option D := if plain a && plain b then some (.bool (!PyData.eqv a b)) else none
def isNone : D → Bool
  | .none => true
  | _ => false
def ordOk (a b : D) : Bool := alike a b && !isNone a && plain a && plain b
def ltD (a b : D) : Option D := if ordOk a b then some (.bool (dataLt a b)) else none
def gtD (a b : D) : Option D := if ordOk a b then some (.bool (dataLt b a)) else none
def leD (a b : D) : Option D := if ordOk a b then some (.bool (!dataLt b a)) else none
def geD (a b : D) : Option D := if ordOk a b then some (.bool (!dataLt a b)) else none
def isND (a : D) : Option D := some (.bool (isNone a))
def notND (a : D) : Option D := some (.bool (!isNone a))

/-! dicts: keys are ints and texts, or tuples of them -/
def flatK : D → Bool
  | .int _ => true
  | .str _ => true
  | _ => false
def tupK : D → Bool
  | .tuple xs => xs.all flatK
  | _ => false
def keyK (d : D) : Bool := flatK d || tupK d
/-- k is of the kind of the keys that are there -/
def fitsK (kvs : List (D × D)) (k : D) : Bool := (flatK k && kvs.all fun p => flatK p.1) || (tupK k && kvs.all fun p => tupK p.1)
def lookD (kvs : List (D × D)) (k : D) : Option D := (kvs.find? fun p => PyData.eqv p.1 k).map (·.2)
def putD (kvs : List (D × D)) (k v : D) : List (D × D) :=
  if (kvs.any fun p => PyData.eqv p.1 k) = true then kvs.map (fun p => if PyData.eqv p.1 k = true then (p.1, v) else p) else kvs ++ [(k, v)]

def inL (x : D) (ys : List D) : Bool := ys.any fun z => PyData.eqv z x
def inD (x c : D) : Option D := match c with
  | .list ys => if plain x && plain c then some (.bool (inL x ys)) else none
  | .tuple ys => if plain x && plain c then some (.bool (inL x ys)) else none
  | .dict kvs => if fitsK kvs x then some (.bool (lookD kvs x).isSome) else none
  | _ => none
def ninD (x c : D) : Option D := match c with
  | .list ys => if plain x && plain c then some (.bool (!inL x ys)) else none
  | .tuple ys => if plain x && plain c then some (.bool (!inL x ys)) else none
  | .dict kvs => if fitsK kvs x then some (.bool (!(lookD kvs x).isSome)) else none
  | _ => none
/-- the item at a place of any sign -/
def atL {α : Type} (xs : List α) (i : Int) : Option α := if 0 ≤ i then xs[i.toNat]? else if 0 ≤ (xs.length : Int) + i then xs[((xs.length : Int) + i).toNat]? else none
def ixD (c i : D) : Option D := match c, i with
  | .list xs, .int n => atL xs n
  | .tuple xs, .int n => atL xs n
  | .dict kvs, k => if fitsK kvs k then lookD kvs k else none
  | _, _ => none
/-- the bound of a slice -/
def clampI (n : Nat) (i : Int) : Nat := if i < 0 then (i + (n : Int)).toNat else min i.toNat n
def cutL {α : Type} (xs : List α) (lo hi : Option Int) : List α :=
  let a := match lo with | none => 0 | some i => clampI xs.length i
  let b := match hi with | none => xs.length | some i => clampI xs.length i
  (xs.drop a).take (b - a)
/-- xs[i::-1] (i told: from it down; not told: all turned round) -/
def backL {α : Type} (xs : List α) (lo : Option Int) : List α := match lo with
  | none => xs.reverse
  | some i => if i < 0 then (xs.take (((xs.length : Int) + i + 1).toNat)).reverse else (xs.take (min (i.toNat + 1) xs.length)).reverse
def lenD : D → Option D
  | .list xs => some (.int xs.length)
  | .tuple xs => some (.int xs.length)
  | _ => none
def intsOf : List D → Option (List Int)
  | [] => some []
  | .int i :: r => (intsOf r).map (i :: ·)
  | _ :: _ => none
/-- the items of a list or tuple -/
def seqD : D → Option (List D)
  | .list xs => some xs
  | .tuple xs => some xs
  | _ => none
def sumD : D → Option D
  | .list xs => (intsOf xs).map fun ns => .int ns.sum
  | _ => none
/-- any two can be compared -/
def sortOk (xs : List D) : Bool := xs.all fun a => (xs.all fun b => alike a b) && (!isNone a && plain a)
def leB (a b : D) : Bool := !dataLt b a
def emptyT : D → Bool
  | .tuple [] => true
  | _ => false
/-- no empty tuple, or the first one is -/
def headT (xs : List D) : Bool := (xs.all fun d => !emptyT d) || (match xs with | d :: _ => emptyT d | [] => true)
def sortL (xs : List D) : Option (List D) := if sortOk xs && headT xs && lenOk xs.length then some (xs.mergeSort leB) else none
def maxL : List D → Option D
  | [] => none
  | x :: xs => if sortOk (x :: xs) then some (maxD x xs) else none
def minL : List D → Option D
  | [] => none
  | x :: xs => if sortOk (x :: xs) then some (minD x xs) else none
def max2 : D → D → Option D
  | .int a, .int b => some (.int (if b > a then b else a))
  | _, _ => none
def min2 : D → D → Option D
  | .int a, .int b => some (.int (if b < a then b else a))
  | _, _ => none
def absD : D → Option D
  | .int a => some (.int (if a < 0 then -a else a))
  | _ => none
def intD : D → Option D
  | .int a => some (.int a)
  | .bool b => some (.int (if b then 1 else 0))
  | _ => none
inductive Ty where
  | int | bool | str | tup
def isiB (t : Ty) (d : D) : Bool := match t, d with
  | .int, .int _ => true
  | .int, .bool _ => true
  | .bool, .bool _ => true
  | .str, .str _ => true
  | .tup, .tuple _ => true
  | _, _ => false
def isDict : D → Bool
  | .dict _ => true
  | _ => false
def isiD (t : Ty) (d : D) : Option D := if isDict d then none else some (.bool (isiB t d))
/-- as a set: each once, the first one kept -/
def dedup : List D → List D
  | [] => []
  | x :: xs => x :: (dedup xs).filter fun y => !PyData.eqv y x
/-- ints, or texts, or tuples of ints -/
def isInt : D → Bool
  | .int _ => true
  | _ => false
def intTup : D → Bool
  | .tuple xs => xs.all isInt
  | _ => false
def setOk (xs : List D) : Bool := (xs.all isInt && decide (xs.length < 4096)) || (xs.all intTup && decide (xs.length < 64))
def setL (xs : List D) : Option (List D) := if setOk xs then some (dedup xs) else none
/-- nothing that can change is in it -/
def fixed : D → Bool
  | .list _ => false
  | .dict _ => false
  | .tuple xs => fixedAll xs
  | _ => true
where fixedAll : List D → Bool
  | [] => true
  | x :: xs => fixed x && fixedAll xs
/-- the place of the first equal one -/
def indexL (xs : List D) (y : D) : Option Nat := xs.findIdx? fun z => PyData.eqv z y
def indexD (c y : D) : Option D := match c with
  | .list xs => if plain c && plain y then (indexL xs y).map (fun (n : Nat) => PyData.int (Int.ofNat n)) else none
  | .tuple xs => if plain c && plain y then (indexL xs y).map (fun (n : Nat) => PyData.int (Int.ofNat n)) else none
  | _ => none

/-! ### expressions -/
def kE (d : D) : E := fun _ => some d
def vE (i : Nat) : E := fun r => match r[i]? with
  | some (.va d) => some d
  | _ => none
/-- the own list of a name, looked at -/
def bE (i : Nat) : E := fun r => match r[i]? with
  | some (.va d) => some d
  | some (.ow d) => some d
  | _ => none
def opE (o : D → D → Option D) (a b : E) : E := fun r => do o (← a r) (← b r)
def unE (o : D → Option D) (a : E) : E := fun r => do o (← a r)
def trT (a : E) : T := fun r => do truD (← a r)
def notT (t : T) : T := fun r => do some (!(← t r))
def andT (t u : T) : T := fun r => do if ← t r then u r else some false
def orT (t u : T) : T := fun r => do if ← t r then some true else u r
def ifE (t : T) (a b : E) : E := fun r => do if ← t r then a r else b r
def notE (a : E) : E := fun r => do some (.bool (!(← truD (← a r))))
def andE (a b : E) : E := fun r => do
  let x ← a r
  if ← truD x then b r else some x
def orE (a b : E) : E := fun r => do
  let x ← a r
  if ← truD x then some x else b r
/-- a < b < c: b once -/
def chE (o p : D → D → Option D) (a b c : E) : E := fun r => do
  let x ← a r
  let y ← b r
  match ← o x y with
  | .bool true => p y (← c r)
  | .bool false => some (.bool false)
  | _ => none
def chE3 (o p q : D → D → Option D) (a b c d : E) : E := fun r => do
  let x ← a r
  let y ← b r
  match ← o x y with
  | .bool true =>
    let z ← c r
    match ← p y z with
    | .bool true => q z (← d r)
    | .bool false => some (.bool false)
    | _ => none
  | .bool false => some (.bool false)
  | _ => none
def argsE : List E → Env → Option (List D)
  | [], _ => some []
  | e :: es, r => do
    let x ← e r
    let xs ← argsE es r
    some (x :: xs)
def tupE (es : List E) : E := fun r => do some (.tuple (← argsE es r))
def lstE (es : List E) : E := fun r => do some (.list (← argsE es r))
def callE (f : List D → Option D) (es : List E) : E := fun r => do f (← argsE es r)
/-- a call that looks at own lists: what comes back holds none -/
def callB (f : List D → Option D) (es : List E) : E := fun r => do
  let d ← f (← argsE es r)
  if fixed d then some d else none
def partE : Option E → Env → Option (Option Int)
  | none, _ => some none
  | some e, r => match e r with
    | some (.int i) => some (some i)
    | _ => none
def cutD (x : D) (a b : Option Int) : Option D := match x with
  | .list xs => some (.list (cutL xs a b))
  | .tuple xs => some (.tuple (cutL xs a b))
  | _ => none
def cutE (c : E) (lo hi : Option E) : E := fun r => do
  let x ← c r
  let a ← partE lo r
  let b ← partE hi r
  cutD x a b
def backD (x : D) (a : Option Int) : Option D := match x with
  | .tuple xs => some (.tuple (backL xs a))
  | .list xs => match a with
    | none => some (.list xs.reverse)
    | some _ => none
  | _ => none
def backE (c : E) (lo : Option E) : E := fun r => do
  let x ← c r
  let a ← partE lo r
  backD x a

/-! ### what is walked -/
def seqI (a : E) : I := fun r => do seqD (← a r)
/-- the items, or the keys of a dict -/
def itemsD : D → Option (List D)
  | .list xs => some xs
  | .tuple xs => some xs
  | .dict kvs => some (kvs.map (·.1))
  | _ => none
def anyI (a : E) : I := fun r => do itemsD (← a r)
def keysI (a : E) : I := fun r => do match ← a r with
  | .dict kvs => some (kvs.map (·.1))
  | _ => none
def big62 (a : Int) : Bool := decide (-(2 ^ 62) ≤ a ∧ a < 2 ^ 62)
def rangeL (lo hi : Int) : List D := (List.range (hi - lo).toNat).map fun i : Nat => .int (lo + (i : Int))
def rgI (lo hi : E) : I := fun r => do match ← lo r, ← hi r with
  | .int a, .int b => if big62 a && big62 b then some (rangeL a b) else none
  | _, _ => none
/-- range(a, b, -1) -/
def rgDownI (lo hi : E) : I := fun r => do match ← lo r, ← hi r with
  | .int a, .int b => if big62 a && big62 b then some ((List.range (a - b).toNat).map fun i : Nat => .int (a - (i : Int))) else none
  | _, _ => none
def enumL : Nat → List D → List D
  | _, [] => []
  | n, x :: xs => .tuple [.int n, x] :: enumL (n + 1) xs
def enumD : D → Option (List D)
  | .list xs => some (enumL 0 xs)
  | _ => none
def enumI (a : E) : I := fun r => do enumD (← a r)
def zipL : List D → List D → List D
  | x :: xs, y :: ys => .tuple [x, y] :: zipL xs ys
  | _, _ => []
def zipD (x y : D) : Option (List D) := match x, y with
  | .list xs, .list ys => some (zipL xs ys)
  | .tuple xs, .tuple ys => some (zipL xs ys)
  | _, _ => none
def zipI (a b : E) : I := fun r => do zipD (← a r) (← b r)
def revI (a : E) : I := fun r => do some (← seqD (← a r)).reverse
def itmI (a : E) : I := fun r => do match ← a r with
  | .dict kvs => some (kvs.map fun p => .tuple [p.1, p.2])
  | _ => none

/-! ### targets -/
inductive Tg where
  | nm (i : Nat)
  | tp (ts : List Tg)
mutual
def asg : Tg → D → Env → Option Env
  | .nm i, d, r => some (r.set i (.va d))
  | .tp ts, d, r => match d with
    | .tuple xs => if ts.length = xs.length then asgs ts xs r else none
    | _ => none
def asgs : List Tg → List D → Env → Option Env
  | [], _, r => some r
  | t :: ts, x :: xs, r => do asgs ts xs (← asg t x r)
  | _ :: _, [], _ => none
end

/-! ### comprehensions -/
def wipeE (r : Env) : List Nat → Env
  | [] => r
  | v :: vs => (wipeE r vs).set v .no
def noT : T := fun _ => some true
/-- [el for tg in xs if ts] -/
def compL (r : Env) (tg : Tg) (ts : T) (el : E) : List D → Option (List D)
  | [] => some []
  | x :: xs => do
    let r1 ← asg tg x r
    if ← ts r1 then do
      let y ← el r1
      let ys ← compL r tg ts el xs
      some (y :: ys)
    else compL r tg ts el xs
def comp2L (r : Env) (tg : Tg) (ts : T) (own2 : List Nat) (it2 : I) (tg2 : Tg) (ts2 : T) (el : E) : List D → Option (List D)
  | [] => some []
  | x :: xs => do
    let r1 ← asg tg x r
    if ← ts r1 then do
      let zs ← it2 r1
      let ys ← compL (wipeE r1 own2) tg2 ts2 el zs
      let yss ← comp2L r tg ts own2 it2 tg2 ts2 el xs
      some (ys ++ yss)
    else comp2L r tg ts own2 it2 tg2 ts2 el xs
def fitL (xs : List D) : Option (List D) := if lenOk xs.length then some xs else none
def compI (own : List Nat) (it : I) (tg : Tg) (ts : T) (el : E) : I := fun r => do fitL (← compL (wipeE r own) tg ts el (← it r))
def comp2I (own : List Nat) (it : I) (tg : Tg) (ts : T) (own2 : List Nat) (it2 : I) (tg2 : Tg) (ts2 : T) (el : E) : I := fun r => do
  fitL (← comp2L (wipeE r own) tg ts own2 it2 tg2 ts2 el (← it r))
/-- all(el for tg in xs if ts) (w = true), any(..) (w = false): goes on while what comes is w -/
def qL (w : Bool) (r : Env) (tg : Tg) (ts : T) (el : E) : List D → Option Bool
  | [] => some w
  | x :: xs => do
    let r1 ← asg tg x r
    if ← ts r1 then match ← el r1 with
      | .bool b => if b = w then qL w r tg ts el xs else some b
      | _ => none
    else qL w r tg ts el xs
def allE (own : List Nat) (it : I) (tg : Tg) (ts : T) (el : E) : E := fun r => do some (.bool (← qL true (wipeE r own) tg ts el (← it r)))
def anyE (own : List Nat) (it : I) (tg : Tg) (ts : T) (el : E) : E := fun r => do some (.bool (← qL false (wipeE r own) tg ts el (← it r)))
/-- all(xs), any(xs) of a list of truth values -/
def boolsOf : List D → Option (List Bool)
  | [] => some []
  | .bool b :: r => (boolsOf r).map (b :: ·)
  | _ :: _ => none
def lstI (it : I) : E := fun r => do some (.list (← it r))
def tupI (it : I) : E := fun r => do some (.tuple (← it r))
def allLD : D → Option D
  | .list xs => (boolsOf xs).map fun bs => .bool (bs.all id)
  | _ => none
def anyLD : D → Option D
  | .list xs => (boolsOf xs).map fun bs => .bool (bs.any id)
  | _ => none
def sortE (it : I) : E := fun r => do some (.list (← sortL (← it r)))
/-- sorted(d), a dict of less than 64 int keys -/
def sortKD : D → Option D
  | .dict kvs => match intsOf (kvs.map (·.1)) with
    | some ns => if decide (ns.length < 64) then some (.list ((ns.mergeSort fun a b => decide (a ≤ b)).map .int)) else none
    | none => none
  | _ => none
def sortLD : D → Option D
  | .list xs => (sortL xs).map .list
  | _ => none
def maxE (it : I) : E := fun r => do maxL (← it r)
def minE (it : I) : E := fun r => do minL (← it r)
def lenSetE (it : I) : E := fun r => do some (.int (← setL (← it r)).length)
def dedupI : List Int → List Int
  | [] => []
  | x :: xs => if x ∈ xs then dedupI xs else x :: dedupI xs
/-- the ints of a list, each once, in order -/
def sortSetD : D → Option D
  | .list xs => match intsOf xs with
    | some ns => if decide (ns.length < 4000) && decide ((dedupI ns).length < 64) then some (.list (((dedupI ns).mergeSort fun a b => decide (a ≤ b)).map .int)) else none
    | none => none
  | _ => none
def lenSetD : D → Option D
  | .list xs => match intsOf xs with
    | some ns => if decide (ns.length < 4000) then some (.int (dedupI ns).length) else none
    | none => none
  | _ => none
/-- {k: v for tg in xs} -/
def dcompL (r : Env) (tg : Tg) (ts : T) (k v : E) (acc : List (D × D)) : List D → Option (List (D × D))
  | [] => some acc
  | x :: xs => do
    let r1 ← asg tg x r
    if ← ts r1 then do
      let a ← k r1
      let b ← v r1
      if flatK a && lenOk (acc.length + 1) then dcompL r tg ts k v (putD acc a b) xs else none
    else dcompL r tg ts k v acc xs
def dcompE (own : List Nat) (it : I) (tg : Tg) (ts : T) (k v : E) : E := fun r => do some (.dict (← dcompL (wipeE r own) tg ts k v [] (← it r)))
def dispL : List (E × E) → List (D × D) → Env → Option (List (D × D))
  | [], acc, _ => some acc
  | (k, v) :: ps, acc, r => do
    let a ← k r
    let b ← v r
    if fitsK acc a then dispL ps (putD acc a b) r else none
def dispE (ps : List (E × E)) : E := fun r => do some (.dict (← dispL ps [] r))
def getE (c k : E) (x : Option E) : E := fun r => do match ← c r with
  | .dict kvs => do
    let a ← k r
    let d ← match x with
      | none => some PyData.none
      | some e => e r
    if fitsK kvs a then some ((lookD kvs a).getD d) else none
  | _ => none

/-! ### statements -/
def blk : List S → S
  | [], r => some (.nx r)
  | s :: ss, r => do match ← s r with
    | .nx r1 => blk ss r1
    | x => some x
def sAsg (tg : Tg) (e : E) : S := fun r => do
  let d ← e r
  some (.nx (← asg tg d r))
/-- a new list or dict, the def's own -/
def sOwn (i : Nat) (e : E) : S := fun r => do some (.nx (r.set i (.ow (← e r))))
/-- the own list of j from now on read by the name i, too, and never changed -/
def sMove (i j : Nat) : S := fun r => do match r[j]? with
  | some (.ow d) => some (.nx ((r.set j (.va d)).set i (.va d)))
  | _ => none
def own (r : Env) (i : Nat) : Option D := match r[i]? with
  | some (.ow d) => some d
  | _ => none
def sApp (i : Nat) (e : E) : S := fun r => do
  let d ← e r
  match ← own r i with
  | .list xs => if lenOk (xs.length + 1) then some (.nx (r.set i (.ow (.list (xs ++ [d]))))) else none
  | _ => none
/-- x.append(y), y's own list or dict never changed from now on -/
def sAppMv (i j : Nat) : S := fun r => do
  let d ← own r j
  match ← own r i with
  | .list xs => if lenOk (xs.length + 1) && decide (i ≠ j) then some (.nx ((r.set j (.va d)).set i (.ow (.list (xs ++ [d]))))) else none
  | _ => none
def sExt (i : Nat) (it : I) : S := fun r => do
  let ys ← it r
  match ← own r i with
  | .list xs => if lenOk (xs.length + ys.length) then some (.nx (r.set i (.ow (.list (xs ++ ys))))) else none
  | _ => none
def setAt (xs : List D) (i : Int) (d : D) : Option (List D) :=
  if 0 ≤ i then (if i.toNat < xs.length then some (xs.set i.toNat d) else none)
  else if 0 ≤ (xs.length : Int) + i then some (xs.set ((xs.length : Int) + i).toNat d) else none
/-- x[k] = e -/
def sPut (i : Nat) (k e : E) : S := fun r => do
  let d ← e r
  let a ← k r
  match ← own r i with
  | .list xs => match a with
    | .int n => do some (.nx (r.set i (.ow (.list (← setAt xs n d)))))
    | _ => none
  | .dict kvs => if fitsK kvs a && lenOk (kvs.length + 1) then some (.nx (r.set i (.ow (.dict (putD kvs a d))))) else none
  | _ => none
/-- tg = x.pop() -/
def sPop (tg : Tg) (i : Nat) : S := fun r => do match ← own r i with
  | .list xs => match xs.getLast? with
    | some d => do some (.nx (← asg tg d (r.set i (.ow (.list xs.dropLast)))))
    | none => none
  | _ => none
def sPop0 (tg : Tg) (i : Nat) : S := fun r => do match ← own r i with
  | .list (x :: xs) => do some (.nx (← asg tg x (r.set i (.ow (.list xs)))))
  | _ => none
def eraseD (y : D) : List D → Option (List D)
  | [] => none
  | x :: xs => if PyData.eqv x y then some xs else (eraseD y xs).map (x :: ·)
def sRem (i : Nat) (e : E) : S := fun r => do
  let d ← e r
  match ← own r i with
  | .list xs => if plain d && plain (.list xs) then do some (.nx (r.set i (.ow (.list (← eraseD d xs))))) else none
  | _ => none
def sExpr (e : E) : S := fun r => do
  let _ ← e r
  some (.nx r)
def sRet (e : E) : S := fun r => do some (.rt (← e r))
def sIf (t : T) (a b : S) : S := fun r => do if ← t r then a r else b r
def sPass : S := fun r => some (.nx r)
def sBrk : S := fun r => some (.bk r)
def sCnt : S := fun r => some (.ct r)
def forL (tg : Tg) (b : S) : List D → S
  | [], r => some (.nx r)
  | x :: xs, r => do
    let r1 ← asg tg x r
    match ← b r1 with
    | .nx r2 => forL tg b xs r2
    | .ct r2 => forL tg b xs r2
    | .bk r2 => some (.nx r2)
    | .rt d => some (.rt d)
def sFor (it : I) (tg : Tg) (b : S) : S := fun r => do forL tg b (← it r) r
def whL (t : T) (b : S) : Nat → S
  | 0, _ => none
  | n + 1, r => do
    if ← t r then
      match ← b r with
      | .nx r2 => whL t b n r2
      | .ct r2 => whL t b n r2
      | .bk r2 => some (.nx r2)
      | .rt d => some (.rt d)
    else some (.nx r)
def sWh (t : T) (b : S) : S := whL t b 100000
/-- a def of p parameters and n names -/
def dDef (p n : Nat) (b : S) (as : List D) : Option D :=
  if as.length = p then
    match b (as.map .va ++ List.replicate (n - p) .no) with
    | some (.rt d) => some d
    | some (.nx _) => some .none
    | _ => none
  else none
/-- x[lo::-1].index(y), x a tuple -/
def tixD (x y : D) : Option D := match x with
  | .tuple _ => indexD x y
  | _ => none
def tupD (d : D) : Option D := (seqD d).map .tuple
def lstD (d : D) : Option D := (seqD d).map .list
/-- tuple(range(..)) of not too many -/
def rgI' (lo hi : E) : I := fun r => do fitL (← rgI lo hi r)
end Dm
end

section
set_option Elab.async false
set_option linter.all false
set_option autoImplicit true
set_option maxRecDepth 100000
/-! DCore: values of the heap that stand for data; names that hold them; the judgements. -/
namespace Dm
open PySem PySem.Spec PyProof.Rows L2

/-- the heap without some addresses -/
def mns (S : List Addr) (H : Hp) : Hp := fun a => if a ∈ S then none else H a
def Good : HO → Prop
  | .lst _ => True
  | .tup _ => True
  | .dK _ => True
  | .dT _ => True
  | _ => False
/-- what is to be read in H is so in H', too -/
structure Le (H H' : Hp) : Prop where
  rd : ∀ a u, Good u → Rd H a u → Rd H' a u
  tup : ∀ a xs, H a = some (.tup xs) → H' a = some (.tup xs)
  emp : ∀ a u, (u = .dK [] ∨ u = .dT []) → H a = some u → H' a = some u
theorem Le.refl (H : Hp) : Le H H := ⟨fun _ _ _ h => h, fun _ _ h => h, fun _ _ _ h => h⟩
theorem Le.trans {H H1 H2 : Hp} (a : Le H H1) (b : Le H1 H2) : Le H H2 := ⟨fun c u g h => b.rd c u g (a.rd c u g h), fun c xs h => b.tup c xs (a.tup c xs h), fun c u g h => b.emp c u g (a.emp c u g h)⟩
abbrev ExtN := LamX.ExtN
theorem le_ext {H H' : Hp} (e : ExtN H H') : Le H H' := ⟨fun a u g h => by
  rcases h with h | ⟨o, h⟩
  · exact .inl (e a u h fun ps z => by subst z; exact g)
  · exact .inr ⟨o, e a _ h fun ps z => by cases z⟩, fun a xs h => e a _ h (fun _ z => by cases z), fun a u g h => e a u h fun ps z => by rcases g with rfl | rfl <;> cases z⟩
theorem mns_none {S : List Addr} {H : Hp} {a : Addr} (h : a ∈ S) : mns S H a = none := if_pos h
theorem mns_of {S : List Addr} {H : Hp} {a : Addr} (h : a ∉ S) : mns S H a = H a := if_neg h
theorem mns_some {S : List Addr} {H : Hp} {a : Addr} {u : HO} (h : mns S H a = some u) : H a = some u ∧ a ∉ S := by
  by_cases ha : a ∈ S
  · rw [mns_none ha] at h; cases h
  · rw [mns_of ha] at h; exact ⟨h, ha⟩
theorem rd_mns {S : List Addr} {H : Hp} {a : Addr} {u : HO} (h : Rd (mns S H) a u) : Rd H a u ∧ a ∉ S := by
  by_cases ha : a ∈ S
  · rcases h with h | ⟨o, h⟩ <;> rw [mns_none ha] at h <;> cases h
  · refine ⟨?_, ha⟩
    rcases h with h | ⟨o, h⟩ <;> rw [mns_of ha] at h
    · exact .inl h
    · exact .inr ⟨o, h⟩
theorem mns_rd {S : List Addr} {H : Hp} {a : Addr} {u : HO} (h : Rd H a u) (ha : a ∉ S) : Rd (mns S H) a u := by
  rcases h with h | ⟨o, h⟩
  · exact .inl ((mns_of ha).trans h)
  · exact .inr ⟨o, (mns_of ha).trans h⟩
theorem le_mns {S : List Addr} {H H' : Hp} (e : Le H H') : Le (mns S H) (mns S H') := ⟨fun a u g h => by
  obtain ⟨h1, h2⟩ := rd_mns h
  exact mns_rd (e.rd a u g h1) h2, fun a xs h => by
  obtain ⟨h1, h2⟩ := mns_some h
  exact (mns_of h2).trans (e.tup a xs h1), fun a u g h => by
  obtain ⟨h1, h2⟩ := mns_some h
  exact (mns_of h2).trans (e.emp a u g h1)⟩
theorem le_sub {S S' : List Addr} {H : Hp} (h : ∀ a ∈ S', a ∈ S) : Le (mns S H) (mns S' H) := ⟨fun a u g q => by
  obtain ⟨h1, h2⟩ := rd_mns q
  exact mns_rd h1 fun z => h2 (h a z), fun a xs q => by
  obtain ⟨h1, h2⟩ := mns_some q
  exact (mns_of fun z => h2 (h a z)).trans h1, fun a u g q => by
  obtain ⟨h1, h2⟩ := mns_some q
  exact (mns_of fun z => h2 (h a z)).trans h1⟩
theorem le_full {S : List Addr} {H : Hp} : Le (mns S H) H := ⟨fun a u g q => (rd_mns q).1, fun a xs q => (mns_some q).1, fun a u g q => (mns_some q).1⟩

/-! ### data -/
def kD : Key → D
  | .inl i => .int i
  | .inr x => .str x
mutual
/-- v stands for d -/
inductive Rp (K : PySem.W.Frag) (H : Hp) : V → D → Prop
  | non : Rp K H .non .none
  | bl (b : Bool) : Rp K H (.bl b) (.bool b)
  | int (i : Int) : Rp K H (.int i) (.int i)
  | str (x : Str) : Rp K H (.str x) (.str x)
  | lst {a : Addr} {xs : List V} {ds : List D} : SqL K H a xs → RpAll K H xs ds → Rp K H (.ref a) (.list ds)
  | tup {a : Addr} {xs : List V} {ds : List D} : H a = some (.tup xs) → RpAll K H xs ds → Rp K H (.ref a) (.tuple ds)
  | dk {a : Addr} {ks : List (Key × V)} {kvs : List (D × D)} : Rd H a (.dK ks) → (ks = [] → H a = some (.dK [])) → RpK K H ks kvs → Rp K H (.ref a) (.dict kvs)
  | dt {a : Addr} {ks : List (List Key × V)} {kvs : List (D × D)} : Rd H a (.dT ks) → (ks = [] → H a = some (.dT [])) → RpT K H ks kvs → Rp K H (.ref a) (.dict kvs)
inductive RpAll (K : PySem.W.Frag) (H : Hp) : List V → List D → Prop
  | nil : RpAll K H [] []
  | cons {v : V} {vs : List V} {d : D} {ds : List D} : Rp K H v d → RpAll K H vs ds → RpAll K H (v :: vs) (d :: ds)
inductive RpK (K : PySem.W.Frag) (H : Hp) : List (Key × V) → List (D × D) → Prop
  | nil : RpK K H [] []
  | cons {k : Key} {v : V} {ks : List (Key × V)} {d : D} {kvs : List (D × D)} : Rp K H v d → RpK K H ks kvs → RpK K H ((k, v) :: ks) ((kD k, d) :: kvs)
inductive RpT (K : PySem.W.Frag) (H : Hp) : List (List Key × V) → List (D × D) → Prop
  | nil : RpT K H [] []
  | cons {k : List Key} {v : V} {ks : List (List Key × V)} {d : D} {kvs : List (D × D)} : Rp K H v d → RpT K H ks kvs → RpT K H ((k, v) :: ks) ((.tuple (k.map kD), d) :: kvs)
end
section
variable {K : PySem.W.Frag} {H H' : Hp}
theorem sqL_le (e : Le H H') {a : Addr} {xs : List V} (h : SqL K H a xs) : SqL K H' a xs := by
  rcases h with h | h
  · exact .inl (e.rd a _ True.intro h)
  · exact .inr h
mutual
theorem Rp.le (e : Le H H') {v : V} {d : D} : Rp K H v d → Rp K H' v d
  | .non => .non
  | .bl b => .bl b
  | .int i => .int i
  | .str x => .str x
  | .lst h r => .lst (sqL_le e h) (RpAll.le e r)
  | .tup h r => .tup (e.tup _ _ h) (RpAll.le e r)
  | .dk h m r => .dk (e.rd _ _ True.intro h) (fun z => e.emp _ _ (.inl rfl) (m z)) (RpK.le e r)
  | .dt h m r => .dt (e.rd _ _ True.intro h) (fun z => e.emp _ _ (.inr rfl) (m z)) (RpT.le e r)
theorem RpAll.le (e : Le H H') {v : List V} {d : List D} : RpAll K H v d → RpAll K H' v d
  | .nil => .nil
  | .cons a b => .cons (Rp.le e a) (RpAll.le e b)
theorem RpK.le (e : Le H H') {v : List (Key × V)} {d : List (D × D)} : RpK K H v d → RpK K H' v d
  | .nil => .nil
  | .cons a b => .cons (Rp.le e a) (RpK.le e b)
theorem RpT.le (e : Le H H') {v : List (List Key × V)} {d : List (D × D)} : RpT K H v d → RpT K H' v d
  | .nil => .nil
  | .cons a b => .cons (Rp.le e a) (RpT.le e b)
end
theorem RpAll.length : ∀ {vs : List V} {ds : List D}, RpAll K H vs ds → vs.length = ds.length
  | _, _, .nil => rfl
  | _, _, .cons _ t => congrArg (· + 1) (RpAll.length t)
theorem RpK.length : ∀ {vs : List (Key × V)} {ds : List (D × D)}, RpK K H vs ds → vs.length = ds.length
  | _, _, .nil => rfl
  | _, _, .cons _ t => congrArg (· + 1) (RpK.length t)
theorem RpT.length : ∀ {vs : List (List Key × V)} {ds : List (D × D)}, RpT K H vs ds → vs.length = ds.length
  | _, _, .nil => rfl
  | _, _, .cons _ t => congrArg (· + 1) (RpT.length t)
theorem RpAll.get : ∀ {vs : List V} {ds : List D} {i : Nat} {d : D}, RpAll K H vs ds → ds[i]? = some d → ∃ v, vs[i]? = some v ∧ Rp K H v d
  | _, _, _, _, .nil, e => by simp at e
  | _, _, 0, _, .cons r _, e => by simp at e; subst e; exact ⟨_, rfl, r⟩
  | _, _, i + 1, d, .cons _ t, e => by
    obtain ⟨u, h1, h2⟩ := RpAll.get (i := i) (d := d) t (by simpa using e)
    exact ⟨u, by simpa using h1, h2⟩
theorem RpAll.getV : ∀ {vs : List V} {ds : List D} {i : Nat} {v : V}, RpAll K H vs ds → vs[i]? = some v → ∃ d, ds[i]? = some d ∧ Rp K H v d
  | _, _, _, _, .nil, e => by simp at e
  | _, _, 0, _, .cons r _, e => by simp at e; subst e; exact ⟨_, rfl, r⟩
  | _, _, i + 1, d, .cons _ t, e => by
    obtain ⟨u, h1, h2⟩ := RpAll.getV (i := i) (v := d) t (by simpa using e)
    exact ⟨u, by simpa using h1, h2⟩
theorem RpAll.append : ∀ {vs ws : List V} {ds es : List D}, RpAll K H vs ds → RpAll K H ws es → RpAll K H (vs ++ ws) (ds ++ es)
  | _, _, _, _, .nil, s => s
  | _, _, _, _, .cons r t, s => .cons r (RpAll.append t s)
theorem RpAll.take : ∀ {vs : List V} {ds : List D} (n : Nat), RpAll K H vs ds → RpAll K H (vs.take n) (ds.take n)
  | _, _, 0, _ => .nil
  | _, _, _ + 1, .nil => .nil
  | _, _, n + 1, .cons r t => .cons r (RpAll.take n t)
theorem RpAll.drop : ∀ {vs : List V} {ds : List D} (n : Nat), RpAll K H vs ds → RpAll K H (vs.drop n) (ds.drop n)
  | _, _, 0, r => r
  | _, _, _ + 1, .nil => .nil
  | _, _, n + 1, .cons _ t => RpAll.drop n t
theorem RpAll.reverse : ∀ {vs : List V} {ds : List D}, RpAll K H vs ds → RpAll K H vs.reverse ds.reverse
  | _, _, .nil => .nil
  | _, _, .cons r t => by
    rw [List.reverse_cons, List.reverse_cons]
    exact (RpAll.reverse t).append (.cons r .nil)
theorem RpAll.set {v : V} {d : D} (q : Rp K H v d) : ∀ {vs : List V} {ds : List D} (i : Nat), RpAll K H vs ds → RpAll K H (vs.set i v) (ds.set i d)
  | _, _, _, .nil => .nil
  | _, _, 0, .cons _ t => .cons q t
  | _, _, i + 1, .cons r t => .cons r (RpAll.set q i t)
theorem RpAll.ints (ns : List Int) : RpAll K H (ns.map V.int) (ns.map PyData.int) := by
  induction ns with
  | nil => exact .nil
  | cons n ns ih => exact .cons (.int n) ih
end

/-! ### the tables of code objects -/
def TabG (H : Hp) (P : Addr) : Prop := ∃ ps : Array Value, H P = some (.tbl ps) ∧ TriplesOk ps.toList
def Tabs (T : List Addr) (H : Hp) : Prop := ∀ P ∈ T, TabG H P
/-- all but the tables stays, the tables stay well-formed -/
structure Nxt (T : List Addr) (H H' : Hp) : Prop where
  ext : ExtN H H'
  tabs : Tabs T H'
  tbl : ∀ b ps, H b = some (.tbl ps) → ∃ ps', H' b = some (.tbl ps')
theorem Nxt.trans {T : List Addr} {H H1 H2 : Hp} (a : Nxt T H H1) (b : Nxt T H1 H2) : Nxt T H H2 := ⟨a.ext.trans b.ext, b.tabs, fun c ps e => by
  obtain ⟨ps', e'⟩ := a.tbl c ps e
  exact b.tbl c ps' e'⟩
theorem Nxt.refl {T : List Addr} {H : Hp} (h : Tabs T H) : Nxt T H H := ⟨LamX.ExtN.refl H, h, fun _ ps e => ⟨ps, e⟩⟩
/-- what is free was free -/
theorem Nxt.free {T : List Addr} {H H' : Hp} (n : Nxt T H H') {p : Addr} (h : H' p = none) : H p = none := by
  cases z : H p with
  | none => rfl
  | some o =>
    by_cases ht : ∃ ps, o = .tbl ps
    · obtain ⟨ps, rfl⟩ := ht
      obtain ⟨ps', e⟩ := n.tbl p ps z
      rw [h] at e; cases e
    · have := n.ext p o z fun ps e => ht ⟨ps, e⟩
      rw [h] at this; cases this
theorem Nxt.le {T : List Addr} {H H' : Hp} (a : Nxt T H H') : Le H H' := le_ext a.ext
theorem tabs_upd {T : List Addr} {H : Hp} {p : Addr} {o : HO} (t : Tabs T H) (h : ∀ ps, H p ≠ some (.tbl ps)) : Tabs T (upd H p o) := fun P hP => by
  obtain ⟨ps, e, k⟩ := t P hP
  refine ⟨ps, ?_, k⟩
  rw [upd_ne fun z => h ps (by rw [← z]; exact e)]
  exact e
theorem ext_new {H : Hp} {p : Addr} {o : HO} (h : H p = none) : ExtN H (upd H p o) := LamX.ExtN.of fun b x e => by
  rw [upd_ne (ne_of_none e h)]; exact e
theorem nxt_new {T : List Addr} {H : Hp} {p : Addr} {o : HO} (t : Tabs T H) (h : H p = none) : Nxt T H (upd H p o) := ⟨ext_new h, tabs_upd t (fun ps z => by rw [h] at z; cases z), fun b ps e => ⟨ps, (upd_ne (ne_of_none e h)).trans e⟩⟩

/-! ### names -/
/-- the list or dict at p, the def's own, stands for d; what it holds stays -/
inductive Own (K : PySem.W.Frag) (S : List Addr) (H : Hp) (p : Addr) : D → Prop
  | lst {xs : List V} {ds : List D} : H p = some (.lst xs) → RpAll K (mns S H) xs ds → Own K S H p (.list ds)
  | dk {ks : List (Key × V)} {kvs : List (D × D)} : H p = some (.dK ks) → RpK K (mns S H) ks kvs → Own K S H p (.dict kvs)
  | dt {ks : List (List Key × V)} {kvs : List (D × D)} : H p = some (.dT ks) → RpT K (mns S H) ks kvs → Own K S H p (.dict kvs)
def SlotOk (K : PySem.W.Frag) (S : List Addr) (H : Hp) (v : Option V) : Slot → Prop
  | .no => True
  | .va d => ∃ x, v = some x ∧ Rp K (mns S H) x d
  | .ow d => ∃ p, v = some (.ref p) ∧ p ∈ S ∧ Own K S H p d
/-- no table, no tuple -/
structure NT (o : HO) : Prop where
  tbl : ∀ ps, o ≠ .tbl ps
  tup : ∀ xs, o ≠ .tup xs
  frz : ∀ o' xs, o ≠ .frz o' (.tup xs)
theorem NT.lst (xs : List V) : NT (.lst xs) := ⟨fun _ z => (by cases z), fun _ z => (by cases z), fun _ _ z => (by cases z)⟩
theorem NT.dK (xs : List (Key × V)) : NT (.dK xs) := ⟨fun _ z => (by cases z), fun _ z => (by cases z), fun _ _ z => (by cases z)⟩
theorem NT.dT (xs : List (List Key × V)) : NT (.dT xs) := ⟨fun _ z => (by cases z), fun _ z => (by cases z), fun _ _ z => (by cases z)⟩
def Live (S : List Addr) (H : Hp) : Prop := ∀ a ∈ S, ∃ o, H a = some o ∧ NT o
theorem Live.ext {S : List Addr} {H H' : Hp} (l : Live S H) (e : ExtN H H') : Live S H' := fun a ha => by
  obtain ⟨o, h, n⟩ := l a ha
  exact ⟨o, e a o h n.tbl, n⟩
theorem Live.notup {S : List Addr} {H : Hp} (l : Live S H) : ∀ p ∈ S, ∀ u, Rd H p u → ¬ ∃ xs, u = .tup xs := fun p hp u r ⟨xs, e⟩ => by
  obtain ⟨o, h, n⟩ := l p hp
  subst e
  rcases r with r | ⟨o', r⟩
  · rw [h] at r; cases r; exact n.tup xs rfl
  · rw [h] at r; cases r; exact n.frz o' xs rfl
theorem Live.new {S : List Addr} {H : Hp} {p : Addr} (l : Live S H) (h : H p = none) : p ∉ S := fun z => by
  obtain ⟨o, e, _⟩ := l p z
  rw [h] at e; cases e
structure EnvOk (K : PySem.W.Frag) (T S : List Addr) (H : Hp) (σ : L2.St) (r : Env) : Prop where
  tabs : Tabs T H
  live : Live S H
  len : σ.length = r.length
  slot : ∀ (i : Nat) (v : Option V) (sl : Slot), σ[i]? = some v → r[i]? = some sl → SlotOk K S H v sl
  inj : ∀ (i j : Nat) (p : Addr) (d e : D), r[i]? = some (.ow d) → r[j]? = some (.ow e) → σ[i]? = some (some (.ref p)) → σ[j]? = some (some (.ref p)) → i = j
section
variable {K : PySem.W.Frag} {T S : List Addr} {H H' : Hp} {σ : L2.St} {r : Env}
theorem Own.nxt {p : Addr} {d : D} (e : ExtN H H') (o : Own K S H p d) : Own K S H' p d := by
  have l : Le (mns S H) (mns S H') := le_mns (le_ext e)
  cases o with
  | lst h q => exact .lst (e _ _ h fun _ z => by cases z) (q.le l)
  | dk h q => exact .dk (e _ _ h fun _ z => by cases z) (q.le l)
  | dt h q => exact .dt (e _ _ h fun _ z => by cases z) (q.le l)
theorem SlotOk.nxt {v : Option V} {sl : Slot} (e : ExtN H H') (o : SlotOk K S H v sl) : SlotOk K S H' v sl := by
  cases sl with
  | no => exact o
  | va d => obtain ⟨x, h, q⟩ := o; exact ⟨x, h, q.le (le_mns (le_ext e))⟩
  | ow d => obtain ⟨p, h, m, q⟩ := o; exact ⟨p, h, m, q.nxt e⟩
theorem EnvOk.nxt (o : EnvOk K T S H σ r) (n : Nxt T H H') : EnvOk K T S H' σ r :=
  ⟨n.tabs, o.live.ext n.ext, o.len, fun i v sl a b => (o.slot i v sl a b).nxt n.ext, o.inj⟩
theorem EnvOk.at (o : EnvOk K T S H σ r) {i : Nat} {sl : Slot} (h : r[i]? = some sl) : ∃ v, σ[i]? = some v ∧ SlotOk K S H v sl := by
  obtain ⟨hi, _⟩ := List.getElem?_eq_some_iff.mp h
  have hi' : i < σ.length := by rw [o.len]; exact hi
  exact ⟨σ[i], List.getElem?_eq_getElem hi', o.slot i _ _ (List.getElem?_eq_getElem hi') h⟩
/-- a name holds a datum that stays -/
theorem EnvOk.setVa (o : EnvOk K T S H σ r) {i : Nat} {x : V} {d : D} (q : Rp K (mns S H) x d) : EnvOk K T S H (σ.set i (some x)) (r.set i (.va d)) := by
  refine ⟨o.tabs, o.live, by rw [List.length_set, List.length_set]; exact o.len, fun j v sl a b => ?_, fun j k p e f a b c d' => ?_⟩
  · by_cases h : i = j
    · subst h
      obtain ⟨h1, e1⟩ := List.getElem?_eq_some_iff.mp a
      obtain ⟨h2, e2⟩ := List.getElem?_eq_some_iff.mp b
      rw [List.getElem_set_self] at e1 e2
      subst e1 e2
      exact ⟨x, rfl, q⟩
    · rw [List.getElem?_set_ne h] at a b
      exact o.slot j v sl a b
  · have hj : i ≠ j := fun z => by
      subst z
      obtain ⟨h2, e2⟩ := List.getElem?_eq_some_iff.mp a
      rw [List.getElem_set_self] at e2; cases e2
    have hk : i ≠ k := fun z => by
      subst z
      obtain ⟨h2, e2⟩ := List.getElem?_eq_some_iff.mp b
      rw [List.getElem_set_self] at e2; cases e2
    rw [List.getElem?_set_ne hj] at a c
    rw [List.getElem?_set_ne hk] at b d'
    exact o.inj j k p e f a b c d'
theorem wipe_len (σ : L2.St) (vs : List Nat) : (wipe σ vs).length = σ.length := wipe_length σ vs
theorem wipeE_len (r : Env) : ∀ vs : List Nat, (wipeE r vs).length = r.length
  | [] => rfl
  | v :: vs => by unfold wipeE; rw [List.length_set, wipeE_len r vs]
theorem EnvOk.setNo (o : EnvOk K T S H σ r) (i : Nat) (x : Option V) : EnvOk K T S H (σ.set i x) (r.set i .no) := by
  refine ⟨o.tabs, o.live, by rw [List.length_set, List.length_set]; exact o.len, fun j v sl a b => ?_, fun j k p e f a b c d' => ?_⟩
  · by_cases h : i = j
    · subst h
      obtain ⟨h2, e2⟩ := List.getElem?_eq_some_iff.mp b
      rw [List.getElem_set_self] at e2
      subst e2
      exact True.intro
    · rw [List.getElem?_set_ne h] at a b
      exact o.slot j v sl a b
  · have hj : i ≠ j := fun z => by
      subst z
      obtain ⟨h2, e2⟩ := List.getElem?_eq_some_iff.mp a
      rw [List.getElem_set_self] at e2; cases e2
    have hk : i ≠ k := fun z => by
      subst z
      obtain ⟨h2, e2⟩ := List.getElem?_eq_some_iff.mp b
      rw [List.getElem_set_self] at e2; cases e2
    rw [List.getElem?_set_ne hj] at a c
    rw [List.getElem?_set_ne hk] at b d'
    exact o.inj j k p e f a b c d'
theorem EnvOk.wipe (o : EnvOk K T S H σ r) : ∀ vs : List Nat, EnvOk K T S H (L2.wipe σ vs) (wipeE r vs)
  | [] => o
  | v :: vs => (EnvOk.wipe o vs).setNo v none
end
/-- what may be looked at: it stays, or it is an own list or dict -/
def RpB (K : PySem.W.Frag) (S : List Addr) (H : Hp) (v : V) (d : D) : Prop := Rp K (mns S H) v d ∨ ∃ p, v = .ref p ∧ Own K S H p d

/-! ### the judgements -/
def tDE (K : PySem.W.Frag) (T : List Addr) (f : E) : TE := fun σ H Q => ∃ S r d, EnvOk K T S H σ r ∧ f r = some d ∧ ∀ v H', Nxt T H H' → Rp K (mns S H') v d → Q v H'
def tDB (K : PySem.W.Frag) (T : List Addr) (f : E) : TE := fun σ H Q => ∃ S r d, EnvOk K T S H σ r ∧ f r = some d ∧ ∀ v H', Nxt T H H' → RpB K S H' v d → Q v H'
/-- a new list or dict, at a place that was free -/
def tDF (K : PySem.W.Frag) (T : List Addr) (f : E) : TE := fun σ H Q => ∃ S r d, EnvOk K T S H σ r ∧ f r = some d ∧ ∀ p H', H p = none → Nxt T H H' → Own K (p :: S) H' p d → Q (.ref p) H'
def tDT (K : PySem.W.Frag) (T : List Addr) (f : Dm.T) : TT := fun σ H Q => ∃ S r b, EnvOk K T S H σ r ∧ f r = some b ∧ ∀ H', Nxt T H H' → Q b H'
def tDA (K : PySem.W.Frag) (T : List Addr) (fs : List E) : TA := fun σ H Q => ∃ S r ds, EnvOk K T S H σ r ∧ argsE fs r = some ds ∧ ∀ vs H', Nxt T H H' → RpAll K (mns S H') vs ds → Q vs H'
inductive RpBs (K : PySem.W.Frag) (S : List Addr) (H : Hp) : List V → List D → Prop
  | nil : RpBs K S H [] []
  | cons {v : V} {vs : List V} {d : D} {ds : List D} : RpB K S H v d → RpBs K S H vs ds → RpBs K S H (v :: vs) (d :: ds)
def tDAB (K : PySem.W.Frag) (T : List Addr) (fs : List E) : TA := fun σ H Q => ∃ S r ds, EnvOk K T S H σ r ∧ argsE fs r = some ds ∧ ∀ vs H', Nxt T H H' → RpBs K S H' vs ds → Q vs H'
structure DE (X : Cx) (T : List Addr) (e : Expr) (f : E) : Prop where
  pe : PE X e (tDE X.K T f)
structure DB (X : Cx) (T : List Addr) (e : Expr) (f : E) : Prop where
  pe : PE X e (tDB X.K T f)
structure DF (X : Cx) (T : List Addr) (e : Expr) (f : E) : Prop where
  pe : PE X e (tDF X.K T f)
structure DT (X : Cx) (T : List Addr) (e : Expr) (f : Dm.T) : Prop where
  pt : PT X e (tDT X.K T f)
/-- and, or of tests -/
structure DW (X : Cx) (T : List Addr) (e : Expr) (f : Dm.T) : Prop where
  pw : PW X e (tDT X.K T f)
structure DA (X : Cx) (T : List Addr) (es : List Expr) (fs : List E) : Prop where
  pa : PA X es (tDA X.K T fs)
structure DAB (X : Cx) (T : List Addr) (es : List Expr) (fs : List E) : Prop where
  pa : PA X es (tDAB X.K T fs)

section
variable {X : Cx} {T : List Addr} {e : Expr} {f : E}
theorem PE.imp {t u : TE} (h : PE X e t) (i : ∀ σ H Q, u σ H Q → t σ H Q) : PE X e u := ⟨fun pins s σ H Q I q => h.run pins s σ H Q I (i σ H Q q)⟩
theorem PT.imp {t u : TT} (h : PT X e t) (i : ∀ σ H Q, u σ H Q → t σ H Q) : PT X e u := ⟨fun pins s σ H Q I q => h.run pins s σ H Q I (i σ H Q q)⟩
theorem PW.imp {t u : TT} (h : PW X e t) (i : ∀ σ H Q, u σ H Q → t σ H Q) : PW X e u := ⟨fun w pins s σ H Q I q => h.run w pins s σ H Q I (i σ H Q q)⟩
theorem PA.imp {es : List Expr} {t u : TA} (h : PA X es t) (i : ∀ σ H Q, u σ H Q → t σ H Q) : PA X es u := ⟨fun pos pins s σ H Q I q => h.run pos pins s σ H Q I (i σ H Q q)⟩
theorem PS.imp {st : Stmt} {t u : TS} (h : PS X st t) (i : ∀ D σ H, u D σ H → t D σ H) : PS X st u := ⟨fun pins s σ H D I q => h.run pins s σ H D I (i D σ H q)⟩
theorem PSs.imp {st : List Stmt} {t u : TS} (h : PSs X st t) (i : ∀ D σ H, u D σ H → t D σ H) : PSs X st u := ⟨fun pins s σ H D I q => h.run pins s σ H D I (i D σ H q)⟩
/-- an own list that is not told of any more -/
theorem Own.rp {K : PySem.W.Frag} {S S' : List Addr} {H : Hp} {p : Addr} {d : D} (o : Own K S H p d) (hp : p ∉ S') (h : ∀ a ∈ S', a ∈ S) : Rp K (mns S' H) (.ref p) d := by
  have l : Le (mns S H) (mns S' H) := le_sub h
  cases o with
  | lst e q => exact .lst (.inl (mns_rd (.inl e) hp)) (q.le l)
  | dk e q => exact .dk (mns_rd (.inl e) hp) (fun z => by subst z; exact (mns_of hp).trans e) (q.le l)
  | dt e q => exact .dt (mns_rd (.inl e) hp) (fun z => by subst z; exact (mns_of hp).trans e) (q.le l)
end
end Dm
end

section
set_option Elab.async false
set_option linter.all false
set_option autoImplicit true
set_option maxRecDepth 100000
set_option maxHeartbeats 1000000
/-! DExp: expressions and tests. -/
namespace Dm
open PySem PySem.Spec PyProof.Rows L2

/-! ### small things -/
theorem RpB.nxt {K : PySem.W.Frag} {T S : List Addr} {H H' : Hp} {v : V} {d : D} (n : Nxt T H H') (h : RpB K S H v d) : RpB K S H' v d := by
  rcases h with h | ⟨p, e, o⟩
  · exact .inl (h.le (le_mns n.le))
  · exact .inr ⟨p, e, o.nxt n.ext⟩
theorem RpBs.nxt {K : PySem.W.Frag} {T S : List Addr} {H H' : Hp} (n : Nxt T H H') : ∀ {vs : List V} {ds : List D}, RpBs K S H vs ds → RpBs K S H' vs ds
  | _, _, .nil => .nil
  | _, _, .cons a b => .cons (a.nxt n) (b.nxt n)
theorem Rp.nxt {K : PySem.W.Frag} {T S : List Addr} {H H' : Hp} {v : V} {d : D} (n : Nxt T H H') (h : Rp K (mns S H) v d) : Rp K (mns S H') v d := h.le (le_mns n.le)
/-- a list that may be looked at: it is read, its items stay -/
theorem RpB.list {K : PySem.W.Frag} {S : List Addr} {H : Hp} {v : V} {ds : List D} (h : RpB K S H v (.list ds)) : ∃ a xs, v = .ref a ∧ SqL K H a xs ∧ RpAll K (mns S H) xs ds := by
  rcases h with h | ⟨p, e, o⟩
  · cases h with
    | lst q r => exact ⟨_, _, rfl, sqL_le le_full q, r⟩
  · cases o with
    | lst q r => exact ⟨p, _, e, .inl (.inl q), r⟩
theorem RpB.tuple {K : PySem.W.Frag} {S : List Addr} {H : Hp} {v : V} {ds : List D} (h : RpB K S H v (.tuple ds)) : ∃ a xs, v = .ref a ∧ H a = some (.tup xs) ∧ RpAll K (mns S H) xs ds := by
  rcases h with h | ⟨p, e, o⟩
  · cases h with
    | tup q r => exact ⟨_, _, rfl, (mns_some q).1, r⟩
  · cases o
theorem RpB.int {K : PySem.W.Frag} {S : List Addr} {H : Hp} {v : V} {i : Int} (h : RpB K S H v (.int i)) : v = .int i := by
  rcases h with h | ⟨p, e, o⟩
  · cases h; rfl
  · cases o
theorem RpB.bool {K : PySem.W.Frag} {S : List Addr} {H : Hp} {v : V} {i : Bool} (h : RpB K S H v (.bool i)) : v = .bl i := by
  rcases h with h | ⟨p, e, o⟩
  · cases h; rfl
  · cases o
theorem RpB.str {K : PySem.W.Frag} {S : List Addr} {H : Hp} {v : V} {i : Str} (h : RpB K S H v (.str i)) : v = .str i := by
  rcases h with h | ⟨p, e, o⟩
  · cases h; rfl
  · cases o
theorem RpB.none {K : PySem.W.Frag} {S : List Addr} {H : Hp} {v : V} (h : RpB K S H v .none) : v = .non := by
  rcases h with h | ⟨p, e, o⟩
  · cases h; rfl
  · cases o
theorem RpB.dict {K : PySem.W.Frag} {S : List Addr} {H : Hp} {v : V} {kvs : List (D × D)} (h : RpB K S H v (.dict kvs)) :
    ∃ a, v = .ref a ∧ ((∃ ks, Rd H a (.dK ks) ∧ (ks = [] → H a = some (.dK [])) ∧ RpK K (mns S H) ks kvs) ∨ ∃ ks, Rd H a (.dT ks) ∧ (ks = [] → H a = some (.dT [])) ∧ RpT K (mns S H) ks kvs) := by
  rcases h with h | ⟨p, e, o⟩
  · cases h with
    | dk q m r => exact ⟨_, rfl, .inl ⟨_, le_full.rd _ _ True.intro q, fun z => (mns_some (m z)).1, r⟩⟩
    | dt q m r => exact ⟨_, rfl, .inr ⟨_, le_full.rd _ _ True.intro q, fun z => (mns_some (m z)).1, r⟩⟩
  · cases o with
    | dk q r => exact ⟨p, e, .inl ⟨_, .inl q, fun z => by subst z; exact q, r⟩⟩
    | dt q r => exact ⟨p, e, .inr ⟨_, .inl q, fun z => by subst z; exact q, r⟩⟩
/-- in the whole heap -/
theorem RpB.full {K : PySem.W.Frag} {S : List Addr} {H : Hp} {v : V} {d : D} (h : RpB K S H v d) : Rp K H v d := by
  rcases h with h | ⟨p, rfl, o⟩
  · exact h.le le_full
  · cases o with
    | lst q r => exact .lst (.inl (.inl q)) (r.le le_full)
    | dk q r => exact .dk (.inl q) (fun z => by subst z; exact q) (r.le le_full)
    | dt q r => exact .dt (.inl q) (fun z => by subst z; exact q) (r.le le_full)
/-! data without dicts -/
theorem layAll_cons {d : D} {ds : List D} (c : PyData.canLayAll0 (d :: ds) = true) : d.canLay0 = true ∧ PyData.canLayAll0 ds = true := by simpa [PyData.canLayAll0] using c
theorem fixAll_cons {d : D} {ds : List D} (c : fixed.fixedAll (d :: ds) = true) : fixed d = true ∧ fixed.fixedAll ds = true := by simpa [fixed.fixedAll] using c
mutual
theorem Rp.dp {K : PySem.W.Frag} {H : Hp} {v : V} {d : D} : Rp K H v d → d.canLay0 = true → Dp K H v d
  | .non, _ => .non
  | .bl b, _ => .bl b
  | .int i, _ => .int i
  | .str x, _ => .str x
  | .lst h r, c => .lst h (RpAll.dp r (by simpa [PyData.canLay0] using c))
  | .tup h r, c => .tup (.of h) (RpAll.dp r (by simpa [PyData.canLay0] using c))
  | .dk _ _ _, c => by simp [PyData.canLay0] at c
  | .dt _ _ _, c => by simp [PyData.canLay0] at c
theorem RpAll.dp {K : PySem.W.Frag} {H : Hp} {v : List V} {d : List D} : RpAll K H v d → PyData.canLayAll0 d = true → DpAll K H v d
  | .nil, _ => .nil
  | .cons a b, c => .cons (Rp.dp a (layAll_cons c).1) (RpAll.dp b (layAll_cons c).2)
end
theorem plain_lay {d : D} (h : plain d = true) : d.canLay0 = true := SeqAt.canLay_of_shaped h
theorem plain_depth {d : D} (h : plain d = true) : d.depth ≤ 64 := by
  have h2 : (d.canLay0 && decide (d.depth ≤ 64)) = true := h
  simp at h2
  exact h2.2
theorem RpB.dp {K : PySem.W.Frag} {S : List Addr} {H : Hp} {v : V} {d : D} (h : RpB K S H v d) (c : plain d = true) : Dp K H v d := h.full.dp (plain_lay c)
/-! what never changes stays whatever is told of -/
mutual
theorem Rp.stays {K : PySem.W.Frag} {S : List Addr} {H : Hp} (hS : ∀ p ∈ S, ∀ u, Rd H p u → ¬ ∃ xs, u = .tup xs) {v : V} {d : D} : Rp K H v d → fixed d = true → Rp K (mns S H) v d
  | .non, _ => .non
  | .bl b, _ => .bl b
  | .int i, _ => .int i
  | .str x, _ => .str x
  | .lst h r, c => by simp [fixed] at c
  | .tup h r, c => by
    refine .tup ?_ (RpAll.stays hS r (by simpa [fixed] using c))
    exact (mns_of fun z => hS _ z _ (.inl h) ⟨_, rfl⟩).trans h
  | .dk _ _ _, c => by simp [fixed] at c
  | .dt _ _ _, c => by simp [fixed] at c
theorem RpAll.stays {K : PySem.W.Frag} {S : List Addr} {H : Hp} (hS : ∀ p ∈ S, ∀ u, Rd H p u → ¬ ∃ xs, u = .tup xs) {v : List V} {d : List D} : RpAll K H v d → fixed.fixedAll d = true → RpAll K (mns S H) v d
  | .nil, _ => .nil
  | .cons a b, c => .cons (Rp.stays hS a (fixAll_cons c).1) (RpAll.stays hS b (fixAll_cons c).2)
end

section
variable {X : Cx} {T : List Addr} {e a b c : Expr} {f g h : E} {pos : Pos}

/-! ### names and constants -/
theorem e_var (i : Nat) {x : Str} (hN : X.N[i]? = some x := by rfl) (hv : Vis X.env.scope x := by first | exact Or.inl rfl | exact Or.inr (Or.inl rfl) | exact Or.inr (Or.inr rfl)) (hd : (x == ("__debug__" : Str)) = false := by decide)
    (hcd : (x == ("__classdict__" : Str)) = false := by decide) : DE X T (.Name x pos) (vE i) := ⟨PE.imp (pe_var hN hv hd hcd) fun σ H Q ⟨S, r, d, o, ef, q⟩ => by
  unfold vE at ef
  split at ef
  · rename_i d' hd'
    cases ef
    obtain ⟨v, e1, x, e2, rp⟩ := o.at hd'
    subst e2
    exact ⟨x, e1, q x H (Nxt.refl o.tabs) rp⟩
  · cases ef⟩
theorem e_own (i : Nat) {x : Str} (hN : X.N[i]? = some x := by rfl) (hv : Vis X.env.scope x := by first | exact Or.inl rfl | exact Or.inr (Or.inl rfl) | exact Or.inr (Or.inr rfl)) (hd : (x == ("__debug__" : Str)) = false := by decide)
    (hcd : (x == ("__classdict__" : Str)) = false := by decide) : DB X T (.Name x pos) (bE i) := ⟨PE.imp (pe_var hN hv hd hcd) fun σ H Q ⟨S, r, d, o, ef, q⟩ => by
  unfold bE at ef
  split at ef
  · rename_i d' hd'
    cases ef
    obtain ⟨v, e1, x, e2, rp⟩ := o.at hd'
    subst e2
    exact ⟨x, e1, q x H (Nxt.refl o.tabs) (.inl rp)⟩
  · rename_i d' hd'
    cases ef
    obtain ⟨v, e1, p, e2, hp, ow⟩ := o.at hd'
    subst e2
    exact ⟨.ref p, e1, q _ H (Nxt.refl o.tabs) (.inr ⟨p, rfl, ow⟩)⟩
  · cases ef⟩
theorem e_toB (ha : DE X T e f) : DB X T e f := ⟨PE.imp ha.pe fun σ H Q ⟨S, r, d, o, ef, q⟩ => ⟨S, r, d, o, ef, fun v H' n rp => q v H' n (.inl rp)⟩⟩
theorem e_varB (i : Nat) {x : Str} (hN : X.N[i]? = some x := by rfl) (hv : Vis X.env.scope x := by first | exact Or.inl rfl | exact Or.inr (Or.inl rfl) | exact Or.inr (Or.inr rfl)) (hd : (x == ("__debug__" : Str)) = false := by decide)
    (hcd : (x == ("__classdict__" : Str)) = false := by decide) : DB X T (.Name x pos) (vE i) := e_toB (e_var i hN hv hd hcd)
theorem e_new (ha : DF X T e f) : DE X T e f := ⟨PE.imp ha.pe fun σ H Q ⟨S, r, d, o, ef, q⟩ => ⟨S, r, d, o, ef, fun p H' hp n ow => q (.ref p) H' n (ow.rp (o.live.new hp) fun a m => List.mem_cons_of_mem _ m)⟩⟩
theorem e_const {d : D} {v : V} (hp : PE X e (tC v)) (r : ∀ K H, Rp K H v d) : DE X T e (kE d) := ⟨PE.imp hp fun σ H Q ⟨S, r', d', o, ef, q⟩ => by
  cases ef
  exact q v H (Nxt.refl o.tabs) (r _ _)⟩
theorem e_int {i : Int} {j : Nat} : DE X T (.Constant (.int i) j pos) (kE (.int i)) := e_const pe_int fun _ _ => .int i
theorem e_bl {i : Bool} {j : Nat} : DE X T (.Constant (.bool i) j pos) (kE (.bool i)) := e_const pe_bl fun _ _ => .bl i
theorem e_non {j : Nat} : DE X T (.Constant .none j pos) (kE .none) := e_const pe_non fun _ _ => .non
theorem e_str {i : Str} {j : Nat} : DE X T (.Constant (.str i) j pos) (kE (.str i)) := e_const pe_str fun _ _ => .str i

/-! ### two values -/
theorem opE_some {o : D → D → Option D} {f g : E} {r : Env} {d : D} (h : opE o f g r = some d) : ∃ x y, f r = some x ∧ g r = some y ∧ o x y = some d := by
  simp only [opE, Option.bind_eq_bind, Option.bind_eq_some_iff] at h
  obtain ⟨x, h1, y, h2, h3⟩ := h
  exact ⟨x, y, h1, h2, h3⟩
theorem unE_some {o : D → Option D} {f : E} {r : Env} {d : D} (h : unE o f r = some d) : ∃ x, f r = some x ∧ o x = some d := by
  simp only [unE, Option.bind_eq_bind, Option.bind_eq_some_iff] at h
  exact h
/-- an operator by values -/
def OpD (X : Cx) (T : List Addr) (m : Value → Value → Sem Value) (o : D → D → Option D) : Prop :=
  ∀ (pins : List (Addr × Obj)) (s : Shared) (σ : L2.St) (H : Hp) (S : List Addr) (x y : V) (v u : Value) (d e r : D) (Q : VK), Inv X pins σ H s → Tabs T H → Live S H → RelV x v → RelV y u → RpB X.K S H x d → RpB X.K S H y e → o d e = some r →
    (∀ z H', Nxt T H H' → Rp X.K (mns S H') z r → Q z H') → wpAny (model X.prog X.w) X.A (m v u) (EP X pins σ Q) X.xe s
theorem bin_some {ha : DB X T a f} {hb : DB X T b g} {pins : List (Addr × Obj)} {s : Shared} {σ : L2.St} {H : Hp} {S : List Addr} {r : Env} {dx dy : D} (I : Inv X pins σ H s) (o : EnvOk X.K T S H σ r) (ex : f r = some dx) (ey : g r = some dy)
    {α : Type} {Q : α → Shared → Prop} {m : Value → Value → Sem α}
    (hm : ∀ v u s2 x y H2, Inv X pins σ H2 s2 → Nxt T H H2 → RelV x v → RelV y u → RpB X.K S H2 x dx → RpB X.K S H2 y dy → wpAny (model X.prog X.w) X.A (m v u) Q X.xe s2) :
    wpAny (model X.prog X.w) X.A (eval a X.env) (fun v s₁ => wpAny (model X.prog X.w) X.A (eval b X.env) (fun u s₂ => wpAny (model X.prog X.w) X.A (m v u) Q X.xe s₂) X.xe s₁) X.xe s := by
  refine thn (ha.pe.run pins s σ H (fun x H1 => Nxt T H H1 ∧ RpB X.K S H1 x dx) I ⟨S, r, dx, o, ex, fun v H' n rp => ⟨n, rp⟩⟩) fun v s1 ⟨x, H1, I1, r1, n1, p1⟩ => ?_
  refine thn (hb.pe.run pins s1 σ H1 (fun y H2 => Nxt T H1 H2 ∧ RpB X.K S H2 y dy) I1 ⟨S, r, dy, o.nxt n1, ey, fun v H' n rp => ⟨n, rp⟩⟩) fun u s2 ⟨y, H2, I2, r2, n2, p2⟩ => ?_
  exact hm v u s2 x y H2 I2 (n1.trans n2) r1 r2 (p1.nxt n2) p2
theorem e_op {op : Operator} {o : D → D → Option D} (ho : OpD X T (binaryOp op) o) (ha : DB X T a f) (hb : DB X T b g) : DE X T (.BinOp a op b pos) (opE o f g) := by
  refine ⟨⟨fun pins s σ H Q I ⟨S, r, d, eo, ef, q⟩ => ?_⟩⟩
  obtain ⟨dx, dy, ex, ey, eo2⟩ := opE_some ef
  exact wpAny_BinOp (bin_some (ha := ha) (hb := hb) I eo ex ey fun v u s2 x y H2 I2 n rx ry px py => ho pins s2 σ H2 S x y v u dx dy d Q I2 n.tabs (eo.live.ext n.ext) rx ry px py eo2 fun z H' n2 rp => q z H' (n.trans n2) rp)
/-- operators of two ints -/
theorem opd_int {m : Value → Value → Sem Value} {C : Int → Int → Prop} {k : Int → Int → Int} {o : D → D → Option D} (ho : OpR X m (rI C fun i j => .int (k i j)))
    (h : ∀ d e r, o d e = some r → ∃ i j, d = .int i ∧ e = .int j ∧ C i j ∧ r = .int (k i j)) : OpD X T m o := fun pins s σ H S x y v u d e r Q I t l rx ry px py eo q => by
  obtain ⟨i, j, rfl, rfl, hc, rfl⟩ := h d e r eo
  obtain rfl := px.int
  obtain rfl := py.int
  exact ho pins s σ H _ _ v u Q I rx ry ⟨i, j, rfl, rfl, hc, q _ H (Nxt.refl t) (.int _)⟩
theorem o_sub : OpD X T (binaryOp .Sub) subD := fun pins s σ H S x y v u d e r Q I t l rx ry px py eo q => by
  unfold subD at eo
  split at eo
  · rename_i i j
    cases eo
    obtain rfl := px.int
    obtain rfl := py.int
    exact op_sub pins s σ H _ _ v u Q I rx ry ⟨i, j, rfl, rfl, q _ H (Nxt.refl t) (.int _)⟩
  · cases eo
theorem o_fdiv : OpD X T (binaryOp .FloorDiv) fdivD := opd_int op_fdivN fun d e r eo => by
  unfold fdivD at eo
  split at eo
  · rename_i i j
    split at eo
    · rename_i hc
      cases eo
      have hc := of_decide_eq_true hc
      exact ⟨i, j, rfl, rfl, hc, rfl⟩
    · cases eo
  · cases eo
theorem o_mod : OpD X T (binaryOp .Mod) modD := opd_int op_modN fun d e r eo => by
  unfold modD at eo
  split at eo
  · rename_i i j
    split at eo
    · rename_i hc
      cases eo
      have hc := of_decide_eq_true hc
      exact ⟨i, j, rfl, rfl, hc, rfl⟩
    · cases eo
  · cases eo
theorem o_pow : OpD X T (binaryOp .Pow) powD := opd_int op_pow fun d e r eo => by
  unfold powD at eo
  split at eo
  · rename_i i j
    split at eo
    · rename_i hc
      cases eo
      have hc := of_decide_eq_true hc
      exact ⟨i, j, rfl, rfl, hc, rfl⟩
    · cases eo
  · cases eo
theorem e_neg (ha : DE X T a f) : DE X T (.UnaryOp .USub a pos) (unE negD f) := ⟨PE.imp (pe_un un_neg ha.pe) fun σ H Q ⟨S, r, d, o, ef, q⟩ => by
  obtain ⟨x, e1, e2⟩ := unE_some ef
  refine ⟨S, r, x, o, e1, fun v H' n rp => ?_⟩
  unfold negD at e2
  split at e2
  · rename_i i
    cases e2
    cases rp
    exact ⟨i, rfl, q _ H' n (.int _)⟩
  · cases e2⟩
theorem lenOk_le {n : Nat} (h : lenOk n = true) : n ≤ sizeLine := by
  rw [sizeLine_eq]
  exact of_decide_eq_true h
theorem ref_ne {H : Hp} {p : Addr} {S : List Addr} (l : Live S H) (h : H p = none) : p ∉ S := l.new h
/-- a new tuple -/
theorem rp_newtup {T S : List Addr} {K : PySem.W.Frag} {H : Hp} {p : Addr} {xs : List V} {ds : List D} (t : Tabs T H) (l : Live S H) (hp : H p = none) (r : RpAll K (mns S H) xs ds) : Nxt T H (upd H p (.tup xs)) ∧ Rp K (mns S (upd H p (.tup xs))) (.ref p) (.tuple ds) :=
  ⟨nxt_new t hp, .tup ((mns_of (l.new hp)).trans upd_same) (r.le (le_mns (le_ext (ext_new hp))))⟩
/-- what stood ahead does not lean on what is new -/
theorem le_new {S : List Addr} {H H' : Hp} {p : Addr} (l : Live S H) (hp : H p = none) (e : Le H H') : Le (mns S H) (mns (p :: S) H') := ⟨fun a u g h => by
  obtain ⟨h1, h2⟩ := rd_mns h
  have hne : a ≠ p := by
    rcases h1 with h1 | ⟨o, h1⟩ <;> exact ne_of_none h1 hp
  refine mns_rd (e.rd a u g h1) fun z => ?_
  rcases List.mem_cons.mp z with z | z
  · exact hne z
  · exact h2 z, fun a xs h => by
  obtain ⟨h1, h2⟩ := mns_some h
  have hne : a ≠ p := ne_of_none h1 hp
  refine (mns_of fun z => ?_).trans (e.tup a xs h1)
  rcases List.mem_cons.mp z with z | z
  · exact hne z
  · exact h2 z, fun a u g h => by
  obtain ⟨h1, h2⟩ := mns_some h
  have hne : a ≠ p := ne_of_none h1 hp
  refine (mns_of fun z => ?_).trans (e.emp a u g h1)
  rcases List.mem_cons.mp z with z | z
  · exact hne z
  · exact h2 z⟩
theorem own_newlst {T S : List Addr} {K : PySem.W.Frag} {H : Hp} {p : Addr} {xs : List V} {ds : List D} (t : Tabs T H) (l : Live S H) (hp : H p = none) (r : RpAll K (mns S H) xs ds) : Nxt T H (upd H p (.lst xs)) ∧ Own K (p :: S) (upd H p (.lst xs)) p (.list ds) := by
  refine ⟨nxt_new t hp, .lst upd_same (r.le (le_new l hp (le_ext (ext_new hp))))⟩
theorem own_rp {T S : List Addr} {K : PySem.W.Frag} {H H' : Hp} {p : Addr} {d : D} (l : Live S H) (hp : H p = none) (o : Own K (p :: S) H' p d) : Rp K (mns S H') (.ref p) d := o.rp (l.new hp) fun a m => List.mem_cons_of_mem _ m

/-! ### what is equal, less, in -/
/-- a comparison by values -/
def CmpD (X : Cx) (T : List Addr) (op : CmpOp) (o : D → D → Option D) : Prop :=
  ∀ (pins : List (Addr × Obj)) (s : Shared) (σ : L2.St) (H : Hp) (S : List Addr) (x y : V) (v u : Value) (d e r : D) (Q : VK), Inv X pins σ H s → RelV x v → RelV y u → RpB X.K S H x d → RpB X.K S H y e → o d e = some r →
    (∀ c, r = .bool c → Q (.bl c) H) → wpAny (model X.prog X.w) X.A (compareOp op v u) (EP X pins σ Q) X.xe s
theorem c_eq (hu : X.A.units + 64 < cLine) : CmpD X T .Eq eqD := fun pins s σ H S x y v u d e r Q I rx ry px py eo q => by
  unfold eqD at eo
  split at eo
  · rename_i hp
    cases eo
    simp only [Bool.and_eq_true] at hp
    exact op_eqD hu pins s σ H x y v u Q I rx ry ⟨d, e, px.dp hp.1, py.dp hp.2, hp.1, hp.2, q _ rfl⟩
  · cases eo
theorem c_ne (hu : X.A.units + 64 < cLine) : CmpD X T .NotEq neD := fun pins s σ H S x y v u d e r Q I rx ry px py eo q => by
  unfold neD at eo
  split at eo
  · rename_i hp
    cases eo
    simp only [Bool.and_eq_true] at hp
    exact op_neD hu pins s σ H x y v u Q I rx ry ⟨d, e, px.dp hp.1, py.dp hp.2, hp.1, hp.2, q _ rfl⟩
  · cases eo
theorem isNone_ne {d : D} (h : isNone d = false) : d ≠ .none := fun e => by subst e; cases h
theorem ordOk_all {d e : D} (h : ordOk d e = true) : PySem.W.alike d e = true ∧ d ≠ .none ∧ plain d = true ∧ plain e = true := by
  unfold ordOk at h
  simp only [Bool.and_eq_true, Bool.not_eq_true'] at h
  exact ⟨h.1.1.1, isNone_ne h.1.1.2, h.1.2, h.2⟩
theorem min_le64 {d e : D} (h : plain d = true) : min d.depth e.depth ≤ 64 := Nat.le_trans (Nat.min_le_left _ _) (plain_depth h)
theorem c_lt (hu : X.A.units + 64 < cLine) : CmpD X T .Lt ltD := fun pins s σ H S x y v u d e r Q I rx ry px py eo q => by
  unfold ltD at eo
  split at eo
  · rename_i hp
    cases eo
    obtain ⟨h1, h2, h3, h4⟩ := ordOk_all hp
    obtain ⟨as, r1⟩ := Dp.reads I d x v (px.dp h3) rx
    obtain ⟨bs, r2⟩ := Dp.reads I e y u (py.dp h4) ry
    exact PySem.W.lt_data r1 r2 h1 h2 (by have := min_le64 (e := e) h3; omega) ⟨.bl _, H, I, rfl, q _ rfl⟩
  · cases eo
theorem c_gt (hu : X.A.units + 64 < cLine) : CmpD X T .Gt gtD := fun pins s σ H S x y v u d e r Q I rx ry px py eo q => by
  unfold gtD at eo
  split at eo
  · rename_i hp
    cases eo
    obtain ⟨h1, h2, h3, h4⟩ := ordOk_all hp
    obtain ⟨as, r1⟩ := Dp.reads I d x v (px.dp h3) rx
    obtain ⟨bs, r2⟩ := Dp.reads I e y u (py.dp h4) ry
    exact PySem.W.gt_data r1 r2 h1 h2 (by have := min_le64 (e := e) h3; omega) ⟨.bl _, H, I, rfl, q _ rfl⟩
  · cases eo
theorem c_le (hu : X.A.units + 64 < cLine) : CmpD X T .LtE leD := fun pins s σ H S x y v u d e r Q I rx ry px py eo q => by
  unfold leD at eo
  split at eo
  · rename_i hp
    cases eo
    obtain ⟨h1, h2, h3, h4⟩ := ordOk_all hp
    obtain ⟨as, r1⟩ := Dp.reads I d x v (px.dp h3) rx
    obtain ⟨bs, r2⟩ := Dp.reads I e y u (py.dp h4) ry
    exact PySem.W.le_data r1 r2 h1 h2 (by have := min_le64 (e := e) h3; omega) ⟨.bl _, H, I, rfl, q _ rfl⟩
  · cases eo
theorem c_ge (hu : X.A.units + 64 < cLine) : CmpD X T .GtE geD := fun pins s σ H S x y v u d e r Q I rx ry px py eo q => by
  unfold geD at eo
  split at eo
  · rename_i hp
    cases eo
    obtain ⟨h1, h2, h3, h4⟩ := ordOk_all hp
    obtain ⟨as, r1⟩ := Dp.reads I d x v (px.dp h3) rx
    obtain ⟨bs, r2⟩ := Dp.reads I e y u (py.dp h4) ry
    exact PySem.W.ge_data r1 r2 h1 h2 (by have := min_le64 (e := e) h3; omega) ⟨.bl _, H, I, rfl, q _ rfl⟩
  · cases eo
/-- its answer is a truth value -/
def BoolO (o : D → D → Option D) : Prop := ∀ d e r, o d e = some r → ∃ c, r = .bool c
theorem b_eq : BoolO eqD := fun d e r h => by unfold eqD at h; split at h <;> cases h; exact ⟨_, rfl⟩
theorem b_ne : BoolO neD := fun d e r h => by unfold neD at h; split at h <;> cases h; exact ⟨_, rfl⟩
theorem b_lt : BoolO ltD := fun d e r h => by unfold ltD at h; split at h <;> cases h; exact ⟨_, rfl⟩
theorem b_gt : BoolO gtD := fun d e r h => by unfold gtD at h; split at h <;> cases h; exact ⟨_, rfl⟩
theorem b_le : BoolO leD := fun d e r h => by unfold leD at h; split at h <;> cases h; exact ⟨_, rfl⟩
theorem b_ge : BoolO geD := fun d e r h => by unfold geD at h; split at h <;> cases h; exact ⟨_, rfl⟩
theorem e_cmp {op : CmpOp} {o : D → D → Option D} (ho : CmpD X T op o) (hb2 : BoolO o) (ha : DB X T a f) (hb : DB X T b g) (hm : behindInMarks op b = false) : DE X T (.Compare a [op] [b] pos) (opE o f g) := by
  refine ⟨⟨fun pins s σ H Q I ⟨S, r, d, eo, ef, q⟩ => ?_⟩⟩
  obtain ⟨dx, dy, ex, ey, eo2⟩ := opE_some ef
  exact wpAny_Compare1 (bin_some (ha := ha) (hb := hb) I eo ex ey fun v u s2 x y H2 I2 n rx ry px py => ho pins s2 σ H2 S x y v u dx dy d Q I2 rx ry px py eo2 fun c ec => q _ H2 n (by rw [ec]; exact .bl c)) hm
theorem trT_some {f : E} {r : Env} {k : Bool} (h : trT f r = some k) : ∃ x, f r = some x ∧ truD x = some k := by
  simp only [trT, Option.bind_eq_bind, Option.bind_eq_some_iff] at h
  exact h
theorem t_cmp {op : CmpOp} {o : D → D → Option D} (ho : CmpD X T op o) (hb2 : BoolO o) (ha : DB X T a f) (hb : DB X T b g) (hm : behindInMarks op b = false) : DT X T (.Compare a [op] [b] pos) (trT (opE o f g)) := by
  refine ⟨⟨fun pins s σ H Q I ⟨S, r, k, eo, ef, q⟩ => ?_⟩⟩
  obtain ⟨d, ef2, et⟩ := trT_some ef
  obtain ⟨dx, dy, ex, ey, eo2⟩ := opE_some ef2
  obtain ⟨c, rfl⟩ := hb2 _ _ _ eo2
  have ek : c = k := Option.some.inj et
  subst ek
  refine wpAny_isTrue_Compare1 (thn (ha.pe.run pins s σ H (fun x H1 => Nxt T H H1 ∧ RpB X.K S H1 x dx) I ⟨S, r, dx, eo, ex, fun v H' n rp => ⟨n, rp⟩⟩) fun v s1 ⟨x, H1, I1, r1, n1, p1⟩ =>
    thn (hb.pe.run pins s1 σ H1 (fun y H2 => Nxt T H1 H2 ∧ RpB X.K S H2 y dy) I1 ⟨S, r, dy, eo.nxt n1, ey, fun v H' n rp => ⟨n, rp⟩⟩) fun u s2 ⟨y, H2, I2, r2, n2, p2⟩ =>
    thn (ho pins s2 σ H2 S x y v u dx dy _ (fun z H3 => z = .bl c ∧ H3 = H2) I2 r1 r2 (p1.nxt n2) p2 eo2 fun c' e' => ⟨by cases e'; rfl, rfl⟩) fun w s3 ⟨z, H3, I3, r3, e1, e2⟩ => ?_) hm
  subst e1 e2
  cases r3
  exact wpAny_truthy_bool ⟨_, I3, q _ (n1.trans n2)⟩
/-- is None -/
theorem rp_isNone {K : PySem.W.Frag} {S : List Addr} {H : Hp} {x : V} {d : D} (h : RpB K S H x d) : decide (x = .non) = isNone d := by
  rcases h with h | ⟨p, rfl, o⟩
  · cases h <;> rfl
  · cases o <;> rfl
theorem e_isN {j : Nat} {p2 : Pos} (ha : DB X T a f) : DE X T (.Compare a [.Is] [.Constant .none j p2] pos) (unE isND f) := ⟨PE.imp (pe_cmp (pc_isN ha.pe) (by rfl)) fun σ H Q ⟨S, r, d, o, ef, q⟩ => by
  obtain ⟨x, e1, e2⟩ := unE_some ef
  cases e2
  exact ⟨S, r, x, o, e1, fun v H' n rp => by show Q (.bl _) H'; rw [rp_isNone rp]; exact q _ H' n (.bl _)⟩⟩
theorem e_notN {j : Nat} {p2 : Pos} (ha : DB X T a f) : DE X T (.Compare a [.IsNot] [.Constant .none j p2] pos) (unE notND f) := ⟨PE.imp (pe_cmp (pc_notN ha.pe) (by rfl)) fun σ H Q ⟨S, r, d, o, ef, q⟩ => by
  obtain ⟨x, e1, e2⟩ := unE_some ef
  cases e2
  exact ⟨S, r, x, o, e1, fun v H' n rp => by show Q (.bl (!_)) H'; rw [rp_isNone rp]; exact q _ H' n (.bl _)⟩⟩
theorem t_isN {j : Nat} {p2 : Pos} (ha : DB X T a f) : DT X T (.Compare a [.Is] [.Constant .none j p2] pos) (trT (unE isND f)) := ⟨PT.imp (pt_cmp (pc_isN ha.pe) (by rfl)) fun σ H Q ⟨S, r, k, o, ef, q⟩ => by
  obtain ⟨d, ef2, et⟩ := trT_some ef
  obtain ⟨x, e1, e2⟩ := unE_some ef2
  cases e2
  exact ⟨S, r, x, o, e1, fun v H' n rp => ⟨_, rfl, by rw [rp_isNone rp]; exact (Option.some.inj et) ▸ q H' n⟩⟩⟩
theorem t_notN {j : Nat} {p2 : Pos} (ha : DB X T a f) : DT X T (.Compare a [.IsNot] [.Constant .none j p2] pos) (trT (unE notND f)) := ⟨PT.imp (pt_cmp (pc_notN ha.pe) (by rfl)) fun σ H Q ⟨S, r, k, o, ef, q⟩ => by
  obtain ⟨d, ef2, et⟩ := trT_some ef
  obtain ⟨x, e1, e2⟩ := unE_some ef2
  cases e2
  exact ⟨S, r, x, o, e1, fun v H' n rp => ⟨_, rfl, by rw [rp_isNone rp]; exact (Option.some.inj et) ▸ q H' n⟩⟩⟩

/-! ### truth, and, or, not -/
theorem tru_rp {K : PySem.W.Frag} {S : List Addr} {H : Hp} {x : V} {d : D} {k : Bool} (h : RpB K S H x d) (e : truD d = some k) : TruV K x H k := by
  cases d with
  | none => rw [h.none]; simp [truD] at e; exact e
  | bool b => rw [h.bool]; simp [truD] at e; exact e.symm
  | int i => rw [h.int]; simp only [truD, Option.some.injEq] at e; exact e.symm
  | str x =>
    rw [h.str]
    simp only [truD] at e
    by_cases hl : x.length ≤ sizeLine
    · rw [if_pos hl] at e
      refine ⟨hl, ?_⟩
      rw [← Option.some.inj e, Bool.eq_iff_iff, bne_iff_ne, bne_iff_ne]
      omega
    · rw [if_neg hl] at e; cases e
  | list ds =>
    obtain ⟨a, xs, rfl, q, r⟩ := h.list
    simp only [truD, Option.some.injEq] at e
    refine .inl ⟨xs, q, ?_⟩
    rw [← e]
    cases r <;> rfl
  | tuple ds =>
    obtain ⟨a, xs, rfl, q, r⟩ := h.tuple
    simp only [truD, Option.some.injEq] at e
    refine .inr (.inl ⟨xs, .of q, ?_⟩)
    rw [← e]
    cases r <;> rfl
  | dict kvs => simp [truD] at e
/-- the truth of what is known -/
theorem tru_at {pins : List (Addr × Obj)} {s : Shared} {σ : L2.St} {H : Hp} {S : List Addr} {x : V} {v : Value} {d : D} {k : Bool} {Q : Bool → Hp → Prop} (I : Inv X pins σ H s) (rx : RelV x v) (h : RpB X.K S H x d) (e : truD d = some k) (q : Q k H) :
    wpAny (model X.prog X.w) X.A (truthy v) (TP X pins σ Q) X.xe s := by
  exact tru_ok pins s σ H x v Q I rx ⟨k, tru_rp h e, q⟩
end
end Dm
end

section
set_option Elab.async false
set_option linter.all false
set_option autoImplicit true
set_option maxRecDepth 100000
set_option maxHeartbeats 1000000
/-! DExp2: truth, and, or, displays, arguments, calls of defs, places, slices, what is in. -/
namespace Dm
open PySem PySem.Spec PyProof.Rows L2
section
variable {X : Cx} {T : List Addr} {e a b c : Expr} {es rest : List Expr} {f g h : E} {fs : List E} {pos : Pos} {u v w : Dm.T}

/-! ### tests -/
theorem t_tru (ha : DB X T a f) (he : ∀ whole, isTrue a X.env whole = (do let v ← whole; standAt a.pos; holding [v] (truthy v)) := by intro _; rfl) : DT X T a (trT f) := by
  refine ⟨⟨fun pins s σ H Q I ⟨S, r, k, eo, ef, q⟩ => ?_⟩⟩
  obtain ⟨d, ef2, et⟩ := trT_some ef
  refine isTrue_plain (thn (ha.pe.run pins s σ H (fun x H1 => Nxt T H H1 ∧ RpB X.K S H1 x d) I ⟨S, r, d, eo, ef2, fun v H' n rp => ⟨n, rp⟩⟩) fun v s1 ⟨x, H1, I1, r1, n1, p1⟩ => tru_at I1 r1 p1 et (q H1 n1)) (he _)
theorem andT_some {t u : Dm.T} {r : Env} {k : Bool} (h : andT t u r = some k) : ∃ x, t r = some x ∧ if x = true then u r = some k else k = false := by
  simp only [andT, Option.bind_eq_bind, Option.bind_eq_some_iff] at h
  obtain ⟨x, h1, h2⟩ := h
  refine ⟨x, h1, ?_⟩
  cases x <;> simp at h2 ⊢ <;> first | exact h2 | exact h2.symm
theorem orT_some {t u : Dm.T} {r : Env} {k : Bool} (h : orT t u r = some k) : ∃ x, t r = some x ∧ if x = true then k = true else u r = some k := by
  simp only [orT, Option.bind_eq_bind, Option.bind_eq_some_iff] at h
  obtain ⟨x, h1, h2⟩ := h
  refine ⟨x, h1, ?_⟩
  cases x <;> simp at h2 ⊢ <;> first | exact h2 | exact h2.symm
theorem t_and1 (ha : DT X T a u) : DW X T (.BoolOp .And [a] pos) u := ⟨pw_and1 ha.pt⟩
theorem t_or1 (ha : DT X T a u) : DW X T (.BoolOp .Or [a] pos) u := ⟨pw_or1 ha.pt⟩
theorem t_and (ha : DT X T a u) (hb : DW X T (.BoolOp .And (b :: rest) pos) v) : DW X T (.BoolOp .And (a :: b :: rest) pos) (andT u v) := ⟨PW.imp (pw_and ha.pt hb.pw) fun σ H Q ⟨S, r, k, o, ef, q⟩ => by
  obtain ⟨x, e1, e2⟩ := andT_some ef
  refine ⟨S, r, x, o, e1, fun H1 n1 => ?_⟩
  cases x with
  | true => rw [if_pos rfl] at e2 ⊢; exact ⟨S, r, k, o.nxt n1, e2, fun H2 n2 => q H2 (n1.trans n2)⟩
  | false => rw [if_neg Bool.false_ne_true] at e2 ⊢; subst e2; exact q H1 n1⟩
theorem t_or (ha : DT X T a u) (hb : DW X T (.BoolOp .Or (b :: rest) pos) v) : DW X T (.BoolOp .Or (a :: b :: rest) pos) (orT u v) := ⟨PW.imp (pw_or ha.pt hb.pw) fun σ H Q ⟨S, r, k, o, ef, q⟩ => by
  obtain ⟨x, e1, e2⟩ := orT_some ef
  refine ⟨S, r, x, o, e1, fun H1 n1 => ?_⟩
  cases x with
  | false => rw [if_neg Bool.false_ne_true] at e2 ⊢; exact ⟨S, r, k, o.nxt n1, e2, fun H2 n2 => q H2 (n1.trans n2)⟩
  | true => rw [if_pos rfl] at e2 ⊢; subst e2; exact q H1 n1⟩
theorem t_bool (ha : DW X T e u) : DT X T e u := ⟨ha.pw.pt⟩
theorem t_not (ha : DT X T a u) : DT X T (.UnaryOp .Not a pos) (notT u) := ⟨PT.imp (pt_not ha.pt) fun σ H Q ⟨S, r, k, o, ef, q⟩ => by
  simp only [notT, Option.bind_eq_bind, Option.bind_eq_some_iff] at ef
  obtain ⟨x, e1, e2⟩ := ef
  exact ⟨S, r, x, o, e1, fun H1 n1 => by cases e2; exact q H1 n1⟩⟩

/-! ### and, or, not as values -/
theorem tru_val {pins : List (Addr × Obj)} {s : Shared} {σ : L2.St} {H : Hp} {S : List Addr} {x : V} {v : Value} {d : D} {k : Bool} {Q : Bool → Shared → Prop} (I : Inv X pins σ H s) (rx : RelV x v) (h : RpB X.K S H x d) (e : truD d = some k)
    (q : ∀ s', Inv X pins σ H s' → Q k s') : wpAny (model X.prog X.w) X.A (truthy v) Q X.xe s :=
  thn (tru_at (Q := fun c H' => c = k ∧ H' = H) I rx h e ⟨rfl, rfl⟩) fun c s' ⟨H', I', e1, e2⟩ => by subst e1 e2; exact q s' I'
theorem e_and1 (ha : DE X T a f) : DE X T (.BoolOp .And [a] pos) f := ⟨pe_one ha.pe⟩
theorem e_or1 (ha : DE X T a f) : DE X T (.BoolOp .Or [a] pos) f := ⟨pe_one ha.pe⟩
theorem e_and (ha : DE X T a f) (hb : DE X T (.BoolOp .And (b :: rest) pos) g) : DE X T (.BoolOp .And (a :: b :: rest) pos) (andE f g) := by
  refine ⟨⟨fun pins s σ H Q I ⟨S, r, d, eo, ef, q⟩ => ?_⟩⟩
  simp only [andE, Option.bind_eq_bind, Option.bind_eq_some_iff] at ef
  obtain ⟨x, e1, k, e2, e3⟩ := ef
  refine BoolOp_and (thn (ha.pe.run pins s σ H (fun y H1 => Nxt T H H1 ∧ Rp X.K (mns S H1) y x) I ⟨S, r, x, eo, e1, fun v H' n rp => ⟨n, rp⟩⟩) fun v s1 ⟨y, H1, I1, r1, n1, p1⟩ => ?_)
  refine tru_val I1 r1 (.inl p1) e2 fun s2 I2 => ?_
  cases k with
  | true => exact hb.pe.run pins s2 σ H1 Q I2 ⟨S, r, d, eo.nxt n1, by simpa using e3, fun v H' n rp => q v H' (n1.trans n) rp⟩
  | false =>
    have : x = d := by simpa using e3
    subst this
    exact ⟨y, H1, I2, r1, q y H1 n1 p1⟩
theorem e_or (ha : DE X T a f) (hb : DE X T (.BoolOp .Or (b :: rest) pos) g) : DE X T (.BoolOp .Or (a :: b :: rest) pos) (orE f g) := by
  refine ⟨⟨fun pins s σ H Q I ⟨S, r, d, eo, ef, q⟩ => ?_⟩⟩
  simp only [orE, Option.bind_eq_bind, Option.bind_eq_some_iff] at ef
  obtain ⟨x, e1, k, e2, e3⟩ := ef
  refine BoolOp_or (thn (ha.pe.run pins s σ H (fun y H1 => Nxt T H H1 ∧ Rp X.K (mns S H1) y x) I ⟨S, r, x, eo, e1, fun v H' n rp => ⟨n, rp⟩⟩) fun v s1 ⟨y, H1, I1, r1, n1, p1⟩ => ?_)
  refine tru_val I1 r1 (.inl p1) e2 fun s2 I2 => ?_
  cases k with
  | false => exact hb.pe.run pins s2 σ H1 Q I2 ⟨S, r, d, eo.nxt n1, by simpa using e3, fun v H' n rp => q v H' (n1.trans n) rp⟩
  | true =>
    have : x = d := by simpa using e3
    subst this
    exact ⟨y, H1, I2, r1, q y H1 n1 p1⟩
theorem e_not (ha : DB X T a f) : DE X T (.UnaryOp .Not a pos) (notE f) := by
  refine ⟨⟨fun pins s σ H Q I ⟨S, r, d, eo, ef, q⟩ => ?_⟩⟩
  simp only [notE, Option.bind_eq_bind, Option.bind_eq_some_iff] at ef
  obtain ⟨x, e1, k, e2, e3⟩ := ef
  cases e3
  refine UnaryOp_ (thn (ha.pe.run pins s σ H (fun y H1 => Nxt T H H1 ∧ RpB X.K S H1 y x) I ⟨S, r, x, eo, e1, fun v H' n rp => ⟨n, rp⟩⟩) fun v s1 ⟨y, H1, I1, r1, n1, p1⟩ => ?_)
  exact not_of (tru_val I1 r1 p1 e2 fun s2 I2 => ⟨.bl (!k), H1, I2, rfl, q _ H1 n1 (.bl _)⟩)
theorem ifE_some {t : Dm.T} {f g : E} {r : Env} {d : D} (h : ifE t f g r = some d) : ∃ k, t r = some k ∧ (if k = true then f r else g r) = some d := by
  simp only [ifE, Option.bind_eq_bind, Option.bind_eq_some_iff] at h
  exact h
theorem e_if (hc : DT X T c u) (ha : DE X T a f) (hb : DE X T b g) : DE X T (.IfExp c a b pos) (ifE u f g) := ⟨PE.imp (pe_ifExp hc.pt ha.pe hb.pe) fun σ H Q ⟨S, r, d, o, ef, q⟩ => by
  obtain ⟨k, e1, e2⟩ := ifE_some ef
  refine ⟨S, r, k, o, e1, fun H1 n1 => ?_⟩
  cases k with
  | true => rw [if_pos rfl] at e2 ⊢; exact ⟨S, r, d, o.nxt n1, e2, fun v H2 n2 rp => q v H2 (n1.trans n2) rp⟩
  | false => rw [if_neg Bool.false_ne_true] at e2 ⊢; exact ⟨S, r, d, o.nxt n1, e2, fun v H2 n2 rp => q v H2 (n1.trans n2) rp⟩⟩
theorem e_ifB (hc : DT X T c u) (ha : DB X T a f) (hb : DB X T b g) : DB X T (.IfExp c a b pos) (ifE u f g) := ⟨PE.imp (pe_ifExp hc.pt ha.pe hb.pe) fun σ H Q ⟨S, r, d, o, ef, q⟩ => by
  obtain ⟨k, e1, e2⟩ := ifE_some ef
  refine ⟨S, r, k, o, e1, fun H1 n1 => ?_⟩
  cases k with
  | true => rw [if_pos rfl] at e2 ⊢; exact ⟨S, r, d, o.nxt n1, e2, fun v H2 n2 rp => q v H2 (n1.trans n2) rp⟩
  | false => rw [if_neg Bool.false_ne_true] at e2 ⊢; exact ⟨S, r, d, o.nxt n1, e2, fun v H2 n2 rp => q v H2 (n1.trans n2) rp⟩⟩

/-! ### chains -/
theorem lk {op : CmpOp} {o : D → D → Option D} (ho : CmpD X T op o) (hb : DB X T b g) {pins : List (Addr × Obj)} {s1 : Shared} {σ : L2.St} {H1 : Hp} {S : List Addr} {r : Env} {z : V} {v : Value} {x y : D} {kb : Bool}
    {R : Value → Value → Bool → Shared → Prop} (I1 : Inv X pins σ H1 s1) (o1 : EnvOk X.K T S H1 σ r) (r1 : RelV z v) (p1 : RpB X.K S H1 z x) (e2 : g r = some y) (e3 : o x y = some (.bool kb))
    (k : ∀ u s3 z2 H2, Inv X pins σ H2 s3 → Nxt T H1 H2 → RelV z2 u → RpB X.K S H2 z2 y → R u (.bool kb) kb s3) :
    wpAny (model X.prog X.w) X.A (eval b X.env) (fun u s₁ => wpAny (model X.prog X.w) X.A (compareOp op v u) (fun c s₂ => wpAny (model X.prog X.w) X.A (truthy c) (fun t s₃ => R u c t s₃) X.xe s₂) X.xe s₁) X.xe s1 := by
  refine thn (hb.pe.run pins s1 σ H1 (fun z H2 => Nxt T H1 H2 ∧ RpB X.K S H2 z y) I1 ⟨S, r, y, o1, e2, fun v H' n rp => ⟨n, rp⟩⟩) fun u s2 ⟨z2, H2, I2, r2, n2, p2⟩ => ?_
  refine thn (ho pins s2 σ H2 S z z2 v u x y _ (fun w H3 => w = .bl kb ∧ H3 = H2) I2 r1 r2 (p1.nxt n2) p2 e3 fun c' e' => ⟨by cases e'; rfl, rfl⟩) fun dd s3 ⟨w, H3, I3, r3, ew, eh⟩ => ?_
  subst ew eh
  cases r3
  exact wpAny_truthy_bool (k u s3 z2 _ I3 n2 r2 p2)
theorem lk1 {op : CmpOp} {o : D → D → Option D} (ho : CmpD X T op o) (hb : DB X T b g) {pins : List (Addr × Obj)} {s1 : Shared} {σ : L2.St} {H1 : Hp} {S : List Addr} {r : Env} {z : V} {v : Value} {x y : D} {kb : Bool}
    {Q : Value → Shared → Prop} (I1 : Inv X pins σ H1 s1) (o1 : EnvOk X.K T S H1 σ r) (r1 : RelV z v) (p1 : RpB X.K S H1 z x) (e2 : g r = some y) (e3 : o x y = some (.bool kb))
    (k : ∀ s3 H2, Inv X pins σ H2 s3 → Nxt T H1 H2 → Q (.bool kb) s3) :
    wpAny (model X.prog X.w) X.A (eval b X.env) (fun u s₁ => wpAny (model X.prog X.w) X.A (compareOp op v u) Q X.xe s₁) X.xe s1 := by
  refine thn (hb.pe.run pins s1 σ H1 (fun z H2 => Nxt T H1 H2 ∧ RpB X.K S H2 z y) I1 ⟨S, r, y, o1, e2, fun v H' n rp => ⟨n, rp⟩⟩) fun u s2 ⟨z2, H2, I2, r2, n2, p2⟩ => ?_
  refine thn (ho pins s2 σ H2 S z z2 v u x y _ (fun w H3 => w = .bl kb ∧ H3 = H2) I2 r1 r2 (p1.nxt n2) p2 e3 fun c' e' => ⟨by cases e'; rfl, rfl⟩) fun dd s3 ⟨w, H3, I3, r3, ew, eh⟩ => ?_
  subst ew eh
  cases r3
  exact k s3 _ I3 n2
theorem chE_some {o p : D → D → Option D} {f g h : E} {r : Env} {d : D} (bo : BoolO o) (bp : BoolO p) (ef : chE o p f g h r = some d) :
    ∃ x y kb, f r = some x ∧ g r = some y ∧ o x y = some (.bool kb) ∧ if kb = true then ∃ z kc, h r = some z ∧ p y z = some (.bool kc) ∧ d = .bool kc else d = .bool false := by
  simp only [chE, Option.bind_eq_bind, Option.bind_eq_some_iff] at ef
  obtain ⟨x, e1, y, e2, k, e3, e4⟩ := ef
  obtain ⟨kb, rfl⟩ := bo _ _ _ e3
  refine ⟨x, y, kb, e1, e2, e3, ?_⟩
  cases kb with
  | false => simp at e4 ⊢; exact e4.symm
  | true =>
    have e4 : (h r).bind (fun y' => p y y') = some d := by simpa using e4
    obtain ⟨z, e5, e6⟩ := Option.bind_eq_some_iff.mp e4
    obtain ⟨kc, rfl⟩ := bp _ _ _ e6
    rw [if_pos rfl]
    exact ⟨z, kc, e5, e6, rfl⟩
theorem chE3_some {o p q : D → D → Option D} {f g h k : E} {r : Env} {d : D} (bo : BoolO o) (bp : BoolO p) (bq : BoolO q) (ef : chE3 o p q f g h k r = some d) :
    ∃ x y kb, f r = some x ∧ g r = some y ∧ o x y = some (.bool kb) ∧ if kb = true then ∃ z kc, h r = some z ∧ p y z = some (.bool kc) ∧ (if kc = true then ∃ w kd, k r = some w ∧ q z w = some (.bool kd) ∧ d = .bool kd else d = .bool false) else d = .bool false := by
  simp only [chE3, Option.bind_eq_bind, Option.bind_eq_some_iff] at ef
  obtain ⟨x, e1, y, e2, k0, e3, e4⟩ := ef
  obtain ⟨kb, rfl⟩ := bo _ _ _ e3
  refine ⟨x, y, kb, e1, e2, e3, ?_⟩
  cases kb with
  | false => simp at e4 ⊢; exact e4.symm
  | true =>
    rw [if_pos rfl]
    simp only [Option.bind_eq_some_iff] at e4
    obtain ⟨z, e5, k1, e6, e7⟩ := e4
    obtain ⟨kc, rfl⟩ := bp _ _ _ e6
    refine ⟨z, kc, e5, e6, ?_⟩
    cases kc with
    | false => simp at e7 ⊢; exact e7.symm
    | true =>
      have e7 : (k r).bind (fun y' => q z y') = some d := by simpa using e7
      obtain ⟨w, e8, e9⟩ := Option.bind_eq_some_iff.mp e7
      obtain ⟨kd, rfl⟩ := bq _ _ _ e9
      rw [if_pos rfl]
      exact ⟨w, kd, e8, e9, rfl⟩
theorem e_ch {op op' : CmpOp} {o p : D → D → Option D} (ho : CmpD X T op o) (hp : CmpD X T op' p) (bo : BoolO o) (bp : BoolO p) (ha : DB X T a f) (hb : DB X T b g) (hc : DB X T c h)
    (hm : lastMarks [op, op'] [b, c] = false := by with_unfolding_all rfl) : DE X T (.Compare a [op, op'] [b, c] pos) (chE o p f g h) := by
  refine ⟨⟨fun pins s σ H Q I ⟨S, r, d, eo, ef, q⟩ => ?_⟩⟩
  obtain ⟨x, y, kb, e1, e2, e3, e4⟩ := chE_some bo bp ef
  refine Compare_chain (thn (ha.pe.run pins s σ H (fun z H1 => Nxt T H H1 ∧ RpB X.K S H1 z x) I ⟨S, r, x, eo, e1, fun v H' n rp => ⟨n, rp⟩⟩) fun v s1 ⟨z, H1, I1, r1, n1, p1⟩ =>
    chain_link (lk ho hb I1 (eo.nxt n1) r1 p1 e2 e3 fun u s3 z2 H2 I2 n2 r2 p2 => ?_)) hm
  cases kb with
  | false =>
    subst e4
    exact ite_ff ⟨.bl false, H2, I2, rfl, q _ _ (n1.trans n2) (.bl _)⟩
  | true =>
    rw [if_pos rfl] at e4
    obtain ⟨w, kc, e5, e6, rfl⟩ := e4
    exact ite_tt (chain_last (lk1 hp hc I2 (eo.nxt (n1.trans n2)) r2 p2 e5 e6 fun s4 H3 I3 n3 => ⟨.bl kc, H3, I3, rfl, q _ _ ((n1.trans n2).trans n3) (.bl _)⟩))
theorem e_ch3 {op op' op'' : CmpOp} {o p p' : D → D → Option D} {dd : Expr} {k : E} (ho : CmpD X T op o) (hp : CmpD X T op' p) (hp' : CmpD X T op'' p') (bo : BoolO o) (bp : BoolO p) (bp' : BoolO p') (ha : DB X T a f) (hb : DB X T b g) (hc : DB X T c h) (hd : DB X T dd k)
    (hm : lastMarks [op, op', op''] [b, c, dd] = false := by with_unfolding_all rfl) : DE X T (.Compare a [op, op', op''] [b, c, dd] pos) (chE3 o p p' f g h k) := by
  refine ⟨⟨fun pins s σ H Q I ⟨S, r, d, eo, ef, q⟩ => ?_⟩⟩
  obtain ⟨x, y, kb, e1, e2, e3, e4⟩ := chE3_some bo bp bp' ef
  refine Compare_chain (thn (ha.pe.run pins s σ H (fun z H1 => Nxt T H H1 ∧ RpB X.K S H1 z x) I ⟨S, r, x, eo, e1, fun v H' n rp => ⟨n, rp⟩⟩) fun v s1 ⟨z, H1, I1, r1, n1, p1⟩ =>
    chain_link (lk ho hb I1 (eo.nxt n1) r1 p1 e2 e3 fun u s3 z2 H2 I2 n2 r2 p2 => ?_)) hm
  cases kb with
  | false =>
    subst e4
    exact ite_ff ⟨.bl false, H2, I2, rfl, q _ _ (n1.trans n2) (.bl _)⟩
  | true =>
    rw [if_pos rfl] at e4
    obtain ⟨w, kc, e5, e6, e7⟩ := e4
    refine ite_tt (chain_link (lk hp hc I2 (eo.nxt (n1.trans n2)) r2 p2 e5 e6 fun u' s4 z3 H3 I3 n3 r3 p3 => ?_))
    cases kc with
    | false =>
      subst e7
      exact ite_ff ⟨.bl false, H3, I3, rfl, q _ _ ((n1.trans n2).trans n3) (.bl _)⟩
    | true =>
      rw [if_pos rfl] at e7
      obtain ⟨w', kd, e8, e9, rfl⟩ := e7
      exact ite_tt (chain_last (lk1 hp' hd I3 (eo.nxt ((n1.trans n2).trans n3)) r3 p3 e8 e9 fun s5 H4 I4 n4 => ⟨.bl kd, H4, I4, rfl, q _ _ (((n1.trans n2).trans n3).trans n4) (.bl _)⟩))
theorem t_ch {op op' : CmpOp} {o p : D → D → Option D} (ho : CmpD X T op o) (hp : CmpD X T op' p) (bo : BoolO o) (bp : BoolO p) (ha : DB X T a f) (hb : DB X T b g) (hc : DB X T c h)
    (hm : lastMarks [op, op'] [b, c] = false := by with_unfolding_all rfl) : DT X T (.Compare a [op, op'] [b, c] pos) (trT (chE o p f g h)) := by
  refine ⟨⟨fun pins s σ H Q I ⟨S, r, kk, eo, ef, q⟩ => ?_⟩⟩
  obtain ⟨d, ef2, et⟩ := trT_some ef
  obtain ⟨x, y, kb, e1, e2, e3, e4⟩ := chE_some bo bp ef2
  refine isTrue_chain (thn (ha.pe.run pins s σ H (fun z H1 => Nxt T H H1 ∧ RpB X.K S H1 z x) I ⟨S, r, x, eo, e1, fun v H' n rp => ⟨n, rp⟩⟩) fun v s1 ⟨z, H1, I1, r1, n1, p1⟩ =>
    test_link (lk (R := fun u c t s3 => if t = true then _ else _) ho hb I1 (eo.nxt n1) r1 p1 e2 e3 fun u s3 z2 H2 I2 n2 r2 p2 => ?_)) hm
  cases kb with
  | false =>
    subst e4
    cases et
    exact ite_ff ⟨H2, I2, q _ (n1.trans n2)⟩
  | true =>
    rw [if_pos rfl] at e4
    obtain ⟨w, kc, e5, e6, rfl⟩ := e4
    have ek : kc = kk := Option.some.inj et
    subst ek
    exact ite_tt (test_last (lk1 (Q := fun c s4 => wpAny (model X.prog X.w) X.A (truthy c) (TP X pins σ Q) X.xe s4) hp hc I2 (eo.nxt (n1.trans n2)) r2 p2 e5 e6 fun s4 H3 I3 n3 => wpAny_truthy_bool ⟨H3, I3, q _ ((n1.trans n2).trans n3)⟩))
theorem t_ch3 {op op' op'' : CmpOp} {o p p' : D → D → Option D} {dd : Expr} {k : E} (ho : CmpD X T op o) (hp : CmpD X T op' p) (hp' : CmpD X T op'' p') (bo : BoolO o) (bp : BoolO p) (bp' : BoolO p') (ha : DB X T a f) (hb : DB X T b g) (hc : DB X T c h) (hd : DB X T dd k)
    (hm : lastMarks [op, op', op''] [b, c, dd] = false := by with_unfolding_all rfl) : DT X T (.Compare a [op, op', op''] [b, c, dd] pos) (trT (chE3 o p p' f g h k)) := by
  refine ⟨⟨fun pins s σ H Q I ⟨S, r, kk, eo, ef, q⟩ => ?_⟩⟩
  obtain ⟨d, ef2, et⟩ := trT_some ef
  obtain ⟨x, y, kb, e1, e2, e3, e4⟩ := chE3_some bo bp bp' ef2
  refine isTrue_chain (thn (ha.pe.run pins s σ H (fun z H1 => Nxt T H H1 ∧ RpB X.K S H1 z x) I ⟨S, r, x, eo, e1, fun v H' n rp => ⟨n, rp⟩⟩) fun v s1 ⟨z, H1, I1, r1, n1, p1⟩ =>
    test_link (lk (R := fun u c t s3 => if t = true then _ else _) ho hb I1 (eo.nxt n1) r1 p1 e2 e3 fun u s3 z2 H2 I2 n2 r2 p2 => ?_)) hm
  cases kb with
  | false =>
    subst e4
    cases et
    exact ite_ff ⟨H2, I2, q _ (n1.trans n2)⟩
  | true =>
    rw [if_pos rfl] at e4
    obtain ⟨w, kc, e5, e6, e7⟩ := e4
    refine ite_tt (test_link (lk (R := fun u c t s3 => if t = true then _ else _) hp hc I2 (eo.nxt (n1.trans n2)) r2 p2 e5 e6 fun u' s4 z3 H3 I3 n3 r3 p3 => ?_))
    cases kc with
    | false =>
      subst e7
      cases et
      exact ite_ff ⟨H3, I3, q _ ((n1.trans n2).trans n3)⟩
    | true =>
      rw [if_pos rfl] at e7
      obtain ⟨w', kd, e8, e9, rfl⟩ := e7
      have ek : kd = kk := Option.some.inj et
      subst ek
      exact ite_tt (test_last (lk1 (Q := fun c s4 => wpAny (model X.prog X.w) X.A (truthy c) (TP X pins σ Q) X.xe s4) hp' hd I3 (eo.nxt ((n1.trans n2).trans n3)) r3 p3 e8 e9 fun s5 H4 I4 n4 => wpAny_truthy_bool ⟨H4, I4, q _ (((n1.trans n2).trans n3).trans n4)⟩))
theorem tr_of (ha : DE X T e f) (hb : ∀ r d, f r = some d → ∃ k, d = .bool k) (he : ∀ whole, isTrue e X.env whole = (do let v ← whole; standAt e.pos; holding [v] (truthy v)) := by intro _; rfl) : DT X T e (trT f) := t_tru (e_toB ha) he

/-! ### arguments and displays -/
theorem argsE_cons {f : E} {fs : List E} {r : Env} {ds : List D} (h : argsE (f :: fs) r = some ds) : ∃ d ds', f r = some d ∧ argsE fs r = some ds' ∧ ds = d :: ds' := by
  simp only [argsE, Option.bind_eq_bind, Option.bind_eq_some_iff] at h
  obtain ⟨d, h1, ds', h2, h3⟩ := h
  exact ⟨d, ds', h1, h2, (Option.some.inj h3).symm⟩
theorem RpAll.nxt' {K : PySem.W.Frag} {T S : List Addr} {H H' : Hp} {v : List V} {d : List D} (n : Nxt T H H') (h : RpAll K (mns S H) v d) : RpAll K (mns S H') v d := h.le (le_mns n.le)
theorem a_nil : DA X T [] [] := ⟨PA.imp pa_nil fun σ H Q ⟨S, r, ds, o, ef, q⟩ => by cases ef; exact q [] H (Nxt.refl o.tabs) .nil⟩
theorem a_cons (ha : DE X T e f) (hs : DA X T es fs) (hst : starEach (e :: es) X.env = (false, eval e X.env) :: starEach es X.env := by rfl) : DA X T (e :: es) (f :: fs) := ⟨PA.imp (pa_cons ha.pe hs.pa hst) fun σ H Q ⟨S, r, ds, o, ef, q⟩ => by
  obtain ⟨d, ds', e1, e2, rfl⟩ := argsE_cons ef
  exact ⟨S, r, d, o, e1, fun v H1 n1 p1 => ⟨S, r, ds', o.nxt n1, e2, fun vs H2 n2 p2 => q _ H2 (n1.trans n2) (.cons (p1.nxt n2) p2)⟩⟩⟩
theorem b_nil : DAB X T [] [] := ⟨PA.imp pa_nil fun σ H Q ⟨S, r, ds, o, ef, q⟩ => by cases ef; exact q [] H (Nxt.refl o.tabs) .nil⟩
theorem b_cons (ha : DB X T e f) (hs : DAB X T es fs) (hst : starEach (e :: es) X.env = (false, eval e X.env) :: starEach es X.env := by rfl) : DAB X T (e :: es) (f :: fs) := ⟨PA.imp (pa_cons ha.pe hs.pa hst) fun σ H Q ⟨S, r, ds, o, ef, q⟩ => by
  obtain ⟨d, ds', e1, e2, rfl⟩ := argsE_cons ef
  exact ⟨S, r, d, o, e1, fun v H1 n1 p1 => ⟨S, r, ds', o.nxt n1, e2, fun vs H2 n2 p2 => q _ H2 (n1.trans n2) (.cons (p1.nxt n2) p2)⟩⟩⟩
theorem bind_some1 {α β : Type} {o : Option α} {k : α → β} {d : β} (h : (do some (k (← o))) = some d) : ∃ x, o = some x ∧ d = k x := by
  simp only [Option.bind_eq_bind, Option.bind_eq_some_iff] at h
  obtain ⟨x, h1, h2⟩ := h
  exact ⟨x, h1, (Option.some.inj h2).symm⟩
theorem argsE_len {fs : List E} {r : Env} {ds : List D} (h : argsE fs r = some ds) : ds.length = fs.length := by
  induction fs generalizing ds with
  | nil => cases h; rfl
  | cons f fs ih =>
    obtain ⟨d, ds', _, e2, rfl⟩ := argsE_cons h
    rw [List.length_cons, List.length_cons, ih e2]
theorem e_tup {x1 : Nat} (hs : DA X T es fs) (hl : lenOk fs.length = true := by rfl) : DE X T (.Tuple es x1 pos) (tupE fs) := ⟨PE.imp (pe_tup hs.pa) fun σ H Q ⟨S, r, d, o, ef, q⟩ => by
  obtain ⟨ds, e1, rfl⟩ := bind_some1 ef
  refine ⟨S, r, ds, o, e1, fun vs H1 n1 p1 => ⟨by rw [p1.length, argsE_len e1]; exact lenOk_le hl, fun p hp => ?_⟩⟩
  obtain ⟨n2, rp⟩ := rp_newtup n1.tabs (o.live.ext n1.ext) hp p1
  exact q _ _ (n1.trans n2) rp⟩
theorem f_lst (hs : DA X T es fs) (hl : lenOk fs.length = true := by rfl) : DF X T (.List es pos) (lstE fs) := ⟨PE.imp (pe_lst hs.pa) fun σ H Q ⟨S, r, d, o, ef, q⟩ => by
  obtain ⟨ds, e1, rfl⟩ := bind_some1 ef
  refine ⟨S, r, ds, o, e1, fun vs H1 n1 p1 => ⟨by rw [p1.length, argsE_len e1]; exact lenOk_le hl, fun p hp => ?_⟩⟩
  obtain ⟨n2, ow⟩ := own_newlst n1.tabs (o.live.ext n1.ext) hp p1
  exact q p _ (n1.free hp) (n1.trans n2) ow⟩
theorem e_lst (hs : DA X T es fs) (hl : lenOk fs.length = true := by rfl) : DE X T (.List es pos) (lstE fs) := e_new (f_lst hs hl)
end
end Dm
end

section
set_option Elab.async false
set_option linter.all false
set_option autoImplicit true
set_option maxRecDepth 100000
set_option maxHeartbeats 1000000
/-! DExp3: +, *, places, slices, what is in; built-ins by values. -/
namespace Dm
open PySem PySem.Spec PyProof.Rows L2
section
variable {X : Cx} {T : List Addr} {e a b c : Expr} {es rest : List Expr} {f g h : E} {fs : List E} {pos : Pos} {u v w : Dm.T}

/-! ### + -/
theorem add_at {pins : List (Addr × Obj)} {s : Shared} {σ : L2.St} {H : Hp} {l b : Addr} {xs ys : List V} {Q : VK} (I : Inv X pins σ H s) (hl : SqL X.K H l xs) (hb : SqL X.K H b ys) (hz : xs.length + ys.length ≤ sizeLine)
    (q : ∀ p, H p = none → Q (.ref p) (upd H p (.lst (xs ++ ys)))) : wpAny (model X.prog X.w) X.A (binaryOp .Add (.ref l) (.ref b)) (EP X pins σ Q) X.xe s := by
  obtain ⟨its, r1, pl1, z1⟩ := I.list hl
  obtain ⟨its2, r2, pl2, z2⟩ := I.list hb
  obtain ⟨⟨cls, dd, data, sl⟩, ho, hc, n, hd⟩ := pl1.isList
  obtain ⟨⟨cls2, dd2, data2, sl2⟩, ho2, hc2, n2, hd2⟩ := pl2.isList
  simp only at hc hd hc2 hd2
  subst hc hd hc2 hd2
  have e1 := r1.length
  have e2 := r2.length
  have e : its.toArray ++ its2.toArray = (its ++ its2).toArray := by simp
  refine concat_meets ⟨_, ho, rfl⟩ ⟨_, ho2, rfl⟩ noFill_list_add seq_list_add PySem.F.slot_list_add PySem.F.entry_list_add (PySem.F.args_list_add_2 _ _) (list_addW l b its.toArray its2.toArray n n2 dd dd2 sl sl2 (by simp only [List.size_toArray]; omega)) ⟨ho, ho2, ?_⟩
  rw [e]
  refine ⟨.ref s.heap.objs.size, _, I.laid (t' := s.toks) (o := .lst (xs ++ ys)) (fun b ob q => Heap.get?_push_of_some _ q) (Nat.le_refl _) ?_, rfl, q _ (I.hok.fresh (Nat.le_refl _))⟩
  exact ⟨by rw [List.length_append]; exact hz, its ++ its2, 0, r1.append r2, Heap.get?_push_size _ rfl⟩
theorem o_add : OpD X T (binaryOp .Add) addD := fun pins s σ H S x y v u d e r Q I t l rx ry px py eo q => by
  unfold addD at eo
  split at eo
  · rename_i i j
    cases eo
    obtain rfl := px.int
    obtain rfl := py.int
    exact op_add pins s σ H _ _ v u Q I rx ry ⟨i, j, rfl, rfl, q _ H (Nxt.refl t) (.int _)⟩
  · rename_i xs ys
    split at eo
    · rename_i hz
      cases eo
      obtain ⟨a, vs, rfl, ha, ra⟩ := px.tuple
      obtain ⟨b, ws, rfl, hb, rb⟩ := py.tuple
      refine op_catA pins s σ H _ _ v u Q I rx ry ⟨a, b, vs, ws, rfl, rfl, .of ha, .of hb, by rw [ra.length, rb.length]; exact lenOk_le hz, fun e => ?_, fun _ e => ?_, fun _ _ p hp => ?_⟩
      · subst e
        cases ra
        rw [List.nil_append] at q
        have : RpB X.K S H (.ref b) (.tuple ys) := py
        rcases this with h | ⟨p, e, o⟩
        · exact q _ H (Nxt.refl t) h
        · cases o
      · subst e
        cases rb
        rw [List.append_nil] at q
        rcases px with h | ⟨p, e, o⟩
        · exact q _ H (Nxt.refl t) h
        · cases o
      · obtain ⟨n, rp⟩ := rp_newtup t l hp (ra.append rb)
        exact q _ _ n rp
    · cases eo
  · rename_i xs ys
    split at eo
    · rename_i hz
      cases eo
      obtain ⟨a, vs, rfl, ha, ra⟩ := px.list
      obtain ⟨b, ws, rfl, hb, rb⟩ := py.list
      cases rx
      cases ry
      refine add_at I ha hb (by rw [ra.length, rb.length]; exact lenOk_le hz) fun p hp => ?_
      obtain ⟨n, ow⟩ := own_newlst t l hp (ra.append rb)
      exact q _ _ n (own_rp (T := T) l hp ow)
    · cases eo
  · cases eo
/-- a new list: a + b of two lists -/
theorem f_add (ha : DB X T a f) (hb : DB X T b g) : DF X T (.BinOp a .Add b pos) (fun r => match opE addD f g r with | some (.list xs) => some (.list xs) | _ => none) := by
  refine ⟨⟨fun pins s σ H Q I ⟨S, r, d, eo, ef, q⟩ => ?_⟩⟩
  simp only at ef
  split at ef
  · rename_i zs ez
    cases ef
    obtain ⟨dx, dy, ex, ey, eo2⟩ := opE_some ez
    refine wpAny_BinOp (bin_some (ha := ha) (hb := hb) I eo ex ey fun v u s2 x y H2 I2 n rx ry px py => ?_)
    unfold addD at eo2
    split at eo2
    · cases eo2
    · split at eo2 <;> cases eo2
    · rename_i xs ys
      split at eo2
      · rename_i hz
        cases eo2
        obtain ⟨a, vs, rfl, ha, ra⟩ := px.list
        obtain ⟨b, ws, rfl, hb, rb⟩ := py.list
        cases rx
        cases ry
        refine add_at I2 ha hb (by rw [ra.length, rb.length]; exact lenOk_le hz) fun p hp => ?_
        obtain ⟨n2, ow⟩ := own_newlst n.tabs (eo.live.ext n.ext) hp (ra.append rb)
        exact q p _ (n.free hp) (n.trans n2) ow
      · cases eo2
    · cases eo2
  · cases ef

/-! ### * -/
theorem flat_len (xs : List V) : ∀ k : Nat, (List.replicate k xs).flatten.length = k * xs.length := fun k => PyProof.Rows.lm_len_rep_flat ..
theorem RpAll.rep {K : PySem.W.Frag} {H : Hp} {xs : List V} {ds : List D} (r : RpAll K H xs ds) : ∀ k : Nat, RpAll K H (List.replicate k xs).flatten (List.replicate k ds).flatten
  | 0 => .nil
  | k + 1 => by
    rw [List.replicate_succ, List.replicate_succ, List.flatten_cons, List.flatten_cons]
    exact r.append (RpAll.rep r k)
theorem small_ok {i : Int} (h : small64 i = true) : -(2 ^ 64) < i ∧ i < 2 ^ 64 := of_decide_eq_true h
theorem o_mulI : OpD X T (binaryOp .Mult) mulI := opd_int op_mul fun d e r eo => by
  unfold mulI at eo
  split at eo
  · rename_i i j
    split at eo
    · rename_i hc
      cases eo
      refine ⟨i, j, rfl, rfl, ?_, rfl⟩
      rcases Bool.or_eq_true_iff.mp hc with h | h
      · exact .inl (small_ok h)
      · exact .inr (small_ok h)
    · cases eo
  · cases eo
theorem f_rep (ha : DF X T a f) (hb : DE X T b g) : DF X T (.BinOp a .Mult b pos) (opE repL f g) := by
  refine ⟨⟨fun pins s σ H Q I ⟨S, r, d, eo, ef, q⟩ => ?_⟩⟩
  obtain ⟨dx, dy, ex, ey, eo2⟩ := opE_some ef
  unfold repL at eo2
  split at eo2
  · rename_i xs k
    split at eo2
    · rename_i hz
      cases eo2
      obtain ⟨hz1, hz2⟩ := Bool.and_eq_true_iff.mp hz
      have hz2 := of_decide_eq_true hz2
      refine wpAny_BinOp (thn (ha.pe.run pins s σ H (fun x H1 => ∃ p, x = .ref p ∧ H p = none ∧ Nxt T H H1 ∧ Own X.K (p :: S) H1 p (.list xs)) I ⟨S, r, _, eo, ex, fun p H' hp n ow => ⟨p, rfl, hp, n, ow⟩⟩) fun v s1 ⟨x, H1, I1, r1, p, ep, hp, n1, ow⟩ => ?_)
      subst ep
      refine thn (hb.pe.run pins s1 σ H1 (fun y H2 => Nxt T H1 H2 ∧ y = .int k) I1 ⟨S, r, _, eo.nxt n1, ey, fun v H' n rp => ⟨n, by cases rp; rfl⟩⟩) fun u s2 ⟨y, H2, I2, r2, n2, ek⟩ => ?_
      subst ek
      have ow := ow.nxt n2.ext
      cases ow with
      | lst hH rr =>
        refine op_rep pins s2 σ H2 _ _ v u Q I2 r1 r2 ⟨p, k, _, rfl, rfl, hH, hz2.1, hz2.2, by rw [rr.length]; exact lenOk_le hz1, fun p2 hp2 => ?_⟩
        obtain ⟨n3, ow3⟩ := own_newlst (T := T) n2.tabs (eo.live.ext (n1.trans n2).ext) hp2 ((rr.le (le_sub fun a m => List.mem_cons_of_mem _ m)).rep k.toNat)
        exact q p2 _ ((n1.trans n2).free hp2) ((n1.trans n2).trans n3) ow3
    · cases eo2
  · cases eo2

/-! ### places -/
theorem atL_atI {α : Type} (xs : List α) (i : Int) : atL xs i = atI xs i := by
  unfold atL atI ixN
  by_cases h0 : 0 ≤ i
  · rw [if_pos h0, if_pos h0]
    by_cases h1 : i < (xs.length : Int)
    · rw [if_pos h1]; rfl
    · rw [if_neg h1]
      exact List.getElem?_eq_none (by omega)
  · rw [if_neg h0, if_neg h0]
    by_cases h1 : -(xs.length : Int) ≤ i
    · rw [if_pos h1, if_pos (by omega)]
      show _ = xs[(i + (xs.length : Int)).toNat]?
      rw [Int.add_comm]
    · rw [if_neg h1, if_neg (by omega)]; rfl
theorem RpAll.at {K : PySem.W.Frag} {H : Hp} {xs : List V} {ds : List D} (r : RpAll K H xs ds) {i : Int} {d : D} (h : atL ds i = some d) : ∃ v, atI xs i = some v ∧ Rp K H v d := by
  rw [← atL_atI]
  unfold atL at h ⊢
  by_cases h0 : 0 ≤ i
  · rw [if_pos h0] at h ⊢; exact r.get h
  · rw [if_neg h0] at h ⊢
    rw [r.length]
    by_cases h1 : 0 ≤ (ds.length : Int) + i
    · rw [if_pos h1] at h ⊢; exact r.get h
    · rw [if_neg h1] at h; cases h
/-! keys -/
theorem flatK_key {d : D} (h : flatK d = true) : ∃ k : Key, d = kD k := by
  cases d with
  | int i => exact ⟨.inl i, rfl⟩
  | str x => exact ⟨.inr x, rfl⟩
  | _ => cases h
theorem flatKs_key : ∀ {ds : List D}, ds.all flatK = true → ∃ ks : List Key, ds = ks.map kD
  | [], _ => ⟨[], rfl⟩
  | d :: ds, h => by
    obtain ⟨h1, h2⟩ := Bool.and_eq_true_iff.mp (show (flatK d && ds.all flatK) = true from h)
    obtain ⟨k, rfl⟩ := flatK_key h1
    obtain ⟨ks, rfl⟩ := flatKs_key h2
    exact ⟨k :: ks, rfl⟩
theorem tupK_key {d : D} (h : tupK d = true) : ∃ ks : List Key, d = .tuple (ks.map kD) := by
  cases d with
  | tuple xs =>
    obtain ⟨ks, rfl⟩ := flatKs_key (show xs.all flatK = true from h)
    exact ⟨ks, rfl⟩
  | _ => cases h
theorem kD_inj {a b : Key} (h : kD a = kD b) : a = b := by
  cases a <;> cases b <;> simp [kD] at h <;> first | rw [h] | cases h
theorem eqv_kD (a b : Key) : PyData.eqv (kD a) (kD b) = decide (a = b) := by
  cases a <;> cases b <;> simp only [kD, PyData.eqv]
  · rw [Bool.eq_iff_iff, beq_iff_eq, decide_eq_true_iff]; constructor <;> intro h <;> first | rw [h] | exact Sum.inl.inj h
  · exact (decide_eq_false (by intro h; cases h)).symm
  · exact (decide_eq_false (by intro h; cases h)).symm
  · rw [Bool.eq_iff_iff, beq_iff_eq, decide_eq_true_iff]; constructor <;> intro h <;> first | rw [h] | exact Sum.inr.inj h
theorem eqvAll_kD : ∀ a b : List Key, PyData.eqvAll (a.map kD) (b.map kD) = decide (a = b)
  | [], [] => rfl
  | [], _ :: _ => (decide_eq_false (by intro h; cases h)).symm
  | _ :: _, [] => (decide_eq_false (by intro h; cases h)).symm
  | x :: xs, y :: ys => by
    show (PyData.eqv (kD x) (kD y) && PyData.eqvAll (xs.map kD) (ys.map kD)) = _
    rw [eqv_kD, eqvAll_kD xs ys, Bool.eq_iff_iff, Bool.and_eq_true_iff, decide_eq_true_iff, decide_eq_true_iff, decide_eq_true_iff, List.cons.injEq]
theorem eqv_tD (a b : List Key) : PyData.eqv (.tuple (a.map kD)) (.tuple (b.map kD)) = decide (a = b) := by
  show PyData.eqvAll _ _ = _
  exact eqvAll_kD a b
theorem lookK {K : PySem.W.Frag} {H : Hp} (k : Key) : ∀ {ks : List (Key × V)} {kvs : List (D × D)}, RpK K H ks kvs → (lookD kvs (kD k) = none ∧ valV ks k = none) ∨ ∃ d v, lookD kvs (kD k) = some d ∧ valV ks k = some v ∧ Rp K H v d
  | _, _, .nil => .inl ⟨rfl, rfl⟩
  | (k', v) :: ks, (_, d) :: kvs, .cons hp r => by
    by_cases h : k' = k
    · subst h
      refine .inr ⟨d, v, ?_, valV_pos rfl, hp⟩
      unfold lookD
      rw [List.find?_cons, show PyData.eqv (kD k', d).1 (kD k') = true by rw [eqv_kD]; simp]; rfl
    · have h1 : lookD ((kD k', d) :: kvs) (kD k) = lookD kvs (kD k) := by
        unfold lookD
        rw [List.find?_cons, show PyData.eqv (kD k', d).1 (kD k) = false by rw [eqv_kD]; simp [h]]
      rw [h1, valV_neg (p := (k', v)) h]
      exact lookK k r
theorem lookT {K : PySem.W.Frag} {H : Hp} (k : List Key) : ∀ {ks : List (List Key × V)} {kvs : List (D × D)}, RpT K H ks kvs → (lookD kvs (PyData.tuple (k.map kD)) = none ∧ valV ks k = none) ∨ ∃ d v, lookD kvs (PyData.tuple (k.map kD)) = some d ∧ valV ks k = some v ∧ Rp K H v d
  | _, _, .nil => .inl ⟨rfl, rfl⟩
  | (k', v) :: ks, (_, d) :: kvs, .cons hp r => by
    by_cases h : k' = k
    · subst h
      refine .inr ⟨d, v, ?_, valV_pos rfl, hp⟩
      unfold lookD
      rw [List.find?_cons, show PyData.eqv (PyData.tuple (k'.map kD), d).1 (PyData.tuple (k'.map kD)) = true by rw [eqv_tD]; simp]; rfl
    · have h1 : lookD ((PyData.tuple (k'.map kD), d) :: kvs) (PyData.tuple (k.map kD)) = lookD kvs (PyData.tuple (k.map kD)) := by
        unfold lookD
        rw [List.find?_cons, show PyData.eqv (PyData.tuple (k'.map kD), d).1 (PyData.tuple (k.map kD)) = false by rw [eqv_tD]; simp [h]]
      rw [h1, valV_neg (p := (k', v)) h]
      exact lookT k r
theorem kD_kV {K : PySem.W.Frag} {H : Hp} {x : V} {k : Key} (h : Rp K H x (kD k)) : x = kV k := by
  cases k with
  | inl i => cases h; rfl
  | inr y => cases h; rfl
theorem kDs_kV {K : PySem.W.Frag} {H : Hp} : ∀ {k : List Key} {xs : List V}, RpAll K H xs (k.map kD) → xs = k.map kV
  | [], _, .nil => rfl
  | k :: ks, _, .cons a b => by rw [kD_kV a, kDs_kV b]; rfl
theorem tupK_kD (k : Key) : tupK (kD k) = false := by cases k <;> rfl
theorem fitK {K : PySem.W.Frag} {H : Hp} {ks : List (Key × V)} {kvs : List (D × D)} (r : RpK K H ks kvs) (hne : kvs ≠ []) {d : D} (h : fitsK kvs d = true) : ∃ k, d = kD k := by
  unfold fitsK at h
  rcases Bool.or_eq_true_iff.mp h with h | h
  · exact flatK_key (Bool.and_eq_true_iff.mp h).1
  · cases r with
    | nil => exact absurd rfl hne
    | cons hp r =>
      have h2 := (Bool.and_eq_true_iff.mp h).2
      rw [List.all_cons, Bool.and_eq_true_iff, tupK_kD] at h2
      exact absurd h2.1 Bool.false_ne_true
theorem fitT {K : PySem.W.Frag} {H : Hp} {ks : List (List Key × V)} {kvs : List (D × D)} (r : RpT K H ks kvs) (hne : kvs ≠ []) {d : D} (h : fitsK kvs d = true) : ∃ k : List Key, d = .tuple (k.map kD) := by
  unfold fitsK at h
  rcases Bool.or_eq_true_iff.mp h with h | h
  · cases r with
    | nil => exact absurd rfl hne
    | cons hp r =>
      have h2 := (Bool.and_eq_true_iff.mp h).2
      rw [List.all_cons, Bool.and_eq_true_iff] at h2
      exact absurd h2.1 Bool.false_ne_true
  · exact tupK_key (Bool.and_eq_true_iff.mp h).1
theorem RpB.key {K : PySem.W.Frag} {S : List Addr} {H : Hp} {x : V} {k : Key} (h : RpB K S H x (kD k)) : x = kV k := kD_kV h.full
theorem RpB.keyT {K : PySem.W.Frag} {S : List Addr} {H : Hp} {x : V} {k : List Key} (h : RpB K S H x (.tuple (k.map kD))) : ∃ b, x = .ref b ∧ H b = some (.tup (k.map kV)) := by
  obtain ⟨a, xs, rfl, h1, h2⟩ := h.tuple
  exact ⟨a, rfl, by rw [h1, kDs_kV h2]⟩
/-- what a dict answers for a key: the two kinds of dicts -/
theorem dget_of {K : PySem.W.Frag} {S : List Addr} {H : Hp} {x y : V} {kvs : List (D × D)} {d : D} (h : RpB K S H x (.dict kvs)) (hy : RpB K S H y d) (hf : fitsK kvs d = true) (hne : kvs ≠ []) :
    ∃ a, x = .ref a ∧ ((lookD kvs d = none ∧ DGet H a y none) ∨ ∃ e v, lookD kvs d = some e ∧ DGet H a y (some v) ∧ Rp K (mns S H) v e) := by
  obtain ⟨a, rfl, ⟨ks, q, m, r⟩ | ⟨ks, q, m, r⟩⟩ := h.dict
  · refine ⟨a, rfl, ?_⟩
    obtain ⟨k, rfl⟩ := fitK r hne hf
    have ey := hy.key
    subst ey
    rcases lookK k r with ⟨h1, h2⟩ | ⟨e, v, h1, h2, h3⟩
    · exact .inl ⟨h1, .inl ⟨ks, k, q, rfl, h2.symm⟩⟩
    · exact .inr ⟨e, v, h1, .inl ⟨ks, k, q, rfl, h2.symm⟩, h3⟩
  · refine ⟨a, rfl, ?_⟩
    obtain ⟨k, rfl⟩ := fitT r hne hf
    obtain ⟨b, rfl, hb⟩ := hy.keyT
    rcases lookT k r with ⟨h1, h2⟩ | ⟨e, v, h1, h2, h3⟩
    · exact .inl ⟨h1, .inr ⟨ks, k, b, q, rfl, hb, h2.symm⟩⟩
    · exact .inr ⟨e, v, h1, .inr ⟨ks, k, b, q, rfl, hb, h2.symm⟩, h3⟩
/-- an empty dict is of both kinds -/
theorem emp_at {P : Program} {w : World} {H H' : Hp} {h : Heap} {a : Addr} {u : HO} (hu : u = .dK [] ∨ u = .dT []) (o : ObjOk P w H h a u) : ObjOk P w H' h a (.dK []) ∧ ObjOk P w H' h a (.dT []) := by
  have key : (a == sysModules) = false ∧ ∃ ob es ep, h.get? a = some ob ∧ ob.ExactDict ∧ ob.data = .dict es ep ∧ es.toList = [] := by
    rcases hu with rfl | rfl
    · obtain ⟨z, y, vs, r, ob, es, ep, e1, e2, e3, e4, e5, e6⟩ := o
      cases r
      refine ⟨y, ob, es, ep, e1, e2, e3, ?_⟩
      cases q : es.toList with
      | nil => rfl
      | cons a b => rw [q] at e5; cases e5
    · obtain ⟨z, y, xs, r, ob, es, ep, e1, e2, e3, e4, e5⟩ := o
      cases r
      exact ⟨y, ob, es, ep, e1, e2, e3, e4⟩
  obtain ⟨y, ob, es, ep, e1, e2, e3, e4⟩ := key
  refine ⟨⟨Nat.zero_le _, y, [], .nil, ob, es, ep, e1, e2, e3, ?_, ?_, List.nodup_nil⟩, ⟨Nat.zero_le _, y, [], .nil, ob, es, ep, e1, e2, e3, by rw [e4]; rfl, List.nodup_nil⟩⟩
  · have : es = #[] := Array.toList_inj.mp e4
    subst this
    intro i hi
    simp at hi
  · rw [e4]; exact .nil
theorem inv_emp {pins : List (Addr × Obj)} {s : Shared} {σ : L2.St} {H : Hp} {a : Addr} {u u' : HO} (I : Inv X pins σ H s) (hu : u = .dK [] ∨ u = .dT []) (hu' : u' = .dK [] ∨ u' = .dT []) (e : H a = some u) : Inv X pins σ (upd H a u') s := by
  have o := emp_at (H' := upd H a u') hu (I.hok a u e)
  obtain ⟨ob, eo⟩ : ∃ ob, s.heap.get? a = some ob := by
    have lt := (I.hok a u e).lt
    rcases hu with rfl | rfl
    · obtain ⟨z, y, vs, r, ob, es, ep, e1, _⟩ := I.hok a _ e
      exact ⟨ob, e1⟩
    · obtain ⟨z, y, xs, r, ob, es, ep, e1, _⟩ := I.hok a _ e
      exact ⟨ob, e1⟩
  refine I.write (h' := s.heap) (t' := s.toks) (by rw [e]; rcases hu with rfl | rfl <;> trivial) (.inl rfl) (fun _ _ _ q => q) ⟨ob, eo⟩ ?_
  rcases hu' with rfl | rfl
  · exact o.1
  · exact o.2
end
end Dm
end

section
set_option Elab.async false
set_option linter.all false
set_option autoImplicit true
set_option maxRecDepth 100000
set_option maxHeartbeats 1000000
/-! DExp4: what is in, places, slices, built-ins by values, calls of defs. -/
namespace Dm
open PySem PySem.Spec PyProof.Rows L2
section
variable {X : Cx} {T : List Addr} {e a b c : Expr} {es rest : List Expr} {f g h : E} {fs : List E} {pos : Pos} {u v w : Dm.T}
theorem upd_self {H : Hp} {a : Addr} {u : HO} (e : H a = some u) : upd H a u = H := by
  funext b
  by_cases h : b = a
  · subst h; rw [upd_same, e]
  · rw [upd_ne h]
/-- a key at an empty dict, whatever its kind -/
theorem emp_key {pins : List (Addr × Obj)} {s : Shared} {σ : L2.St} {H : Hp} {S : List Addr} {a : Addr} {y : V} {u : HO} {d : D} (I : Inv X pins σ H s) (hu : u = .dK [] ∨ u = .dT []) (e : H a = some u) (hy : RpB X.K S H y d) (hf : keyK d = true) :
    ∃ u', (u' = .dK [] ∨ u' = .dT []) ∧ Inv X pins σ (upd H a u') s ∧ DGet (upd H a u') a y none ∧ ∀ s', Inv X pins σ (upd H a u') s' → Inv X pins σ H s' := by
  have back : ∀ u', (u' = .dK [] ∨ u' = .dT []) → ∀ s', Inv X pins σ (upd H a u') s' → Inv X pins σ H s' := fun u' hu' s' I' => by
    have := inv_emp I' hu' hu upd_same
    rw [upd_upd, upd_self e] at this
    exact this
  rcases Bool.or_eq_true_iff.mp hf with hk | hk
  · obtain ⟨k, rfl⟩ := flatK_key hk
    have ey := hy.key
    subst ey
    exact ⟨.dK [], .inl rfl, inv_emp I hu (.inl rfl) e, .inl ⟨[], k, .inl upd_same, rfl, rfl⟩, back _ (.inl rfl)⟩
  · obtain ⟨k, rfl⟩ := tupK_key hk
    obtain ⟨b, rfl, hb⟩ := hy.keyT
    refine ⟨.dT [], .inr rfl, inv_emp I hu (.inr rfl) e, .inr ⟨[], k, b, .inl upd_same, rfl, ?_, rfl⟩, back _ (.inr rfl)⟩
    have hne : b ≠ a := fun z => by subst z; rw [hb] at e; rcases hu with rfl | rfl <;> cases e
    rw [upd_ne hne]; exact hb
theorem fits_key {kvs : List (D × D)} {d : D} (h : fitsK kvs d = true) : keyK d = true := by
  unfold fitsK at h
  unfold keyK
  rcases Bool.or_eq_true_iff.mp h with h | h
  · rw [(Bool.and_eq_true_iff.mp h).1]; rfl
  · rw [(Bool.and_eq_true_iff.mp h).1, Bool.or_true]
theorem dict_emp {K : PySem.W.Frag} {S : List Addr} {H : Hp} {x : V} (h : RpB K S H x (.dict [])) : ∃ a u, x = .ref a ∧ (u = .dK [] ∨ u = .dT []) ∧ H a = some u := by
  obtain ⟨a, rfl, ⟨ks, q, m, r⟩ | ⟨ks, q, m, r⟩⟩ := h.dict
  · cases r; exact ⟨a, _, rfl, .inl rfl, m rfl⟩
  · cases r; exact ⟨a, _, rfl, .inr rfl, m rfl⟩
theorem in_dict {pins : List (Addr × Obj)} {s : Shared} {σ : L2.St} {H : Hp} {S : List Addr} {x y : V} {v u : Value} {kvs : List (D × D)} {d : D} {Q : VK} (hu : X.A.units + 1 < cLine) (I : Inv X pins σ H s) (rx : RelV x v) (ry : RelV y u)
    (hx : RpB X.K S H x (.dict kvs)) (hy : RpB X.K S H y d) (hf : fitsK kvs d = true) (q : Q (.bl (lookD kvs d).isSome) H) : wpAny (model X.prog X.w) X.A (compareOp .In u v) (EP X pins σ Q) X.xe s := by
  by_cases hne : kvs = []
  · subst hne
    obtain ⟨a, o, rfl, ho, e⟩ := dict_emp hx
    cases rx
    obtain ⟨u', hu', I', g, back⟩ := emp_key I ho e hy (fits_key hf)
    exact d_in hu I' g ry fun s' I2 => ⟨.bl false, H, back s' I2, rfl, q⟩
  · obtain ⟨a, rfl, ⟨e, g⟩ | ⟨e, z, h1, g, h3⟩⟩ := dget_of hx hy hf hne
    · cases rx
      exact d_in hu I g ry fun s' I2 => ⟨.bl _, H, I2, rfl, by rw [e] at q; exact q⟩
    · cases rx
      exact d_in hu I g ry fun s' I2 => ⟨.bl _, H, I2, rfl, by rw [h1] at q; exact q⟩
theorem nin_dict {pins : List (Addr × Obj)} {s : Shared} {σ : L2.St} {H : Hp} {S : List Addr} {x y : V} {v u : Value} {kvs : List (D × D)} {d : D} {Q : VK} (hu : X.A.units + 1 < cLine) (I : Inv X pins σ H s) (rx : RelV x v) (ry : RelV y u)
    (hx : RpB X.K S H x (.dict kvs)) (hy : RpB X.K S H y d) (hf : fitsK kvs d = true) (q : Q (.bl (!(lookD kvs d).isSome)) H) : wpAny (model X.prog X.w) X.A (compareOp .NotIn u v) (EP X pins σ Q) X.xe s := by
  by_cases hne : kvs = []
  · subst hne
    obtain ⟨a, o, rfl, ho, e⟩ := dict_emp hx
    cases rx
    obtain ⟨u', hu', I', g, back⟩ := emp_key I ho e hy (fits_key hf)
    exact d_notIn hu I' g ry fun s' I2 => ⟨.bl true, H, back s' I2, rfl, q⟩
  · obtain ⟨a, rfl, ⟨e, g⟩ | ⟨e, z, h1, g, h3⟩⟩ := dget_of hx hy hf hne
    · cases rx
      exact d_notIn hu I g ry fun s' I2 => ⟨.bl _, H, I2, rfl, by rw [e] at q; exact q⟩
    · cases rx
      exact d_notIn hu I g ry fun s' I2 => ⟨.bl _, H, I2, rfl, by rw [h1] at q; exact q⟩
theorem plain_items {ds : List D} (h : plain (.list ds) = true) : PyData.canLayAll0 ds = true := plain_lay h
theorem plain_items2 {ds : List D} (h : plain (.tuple ds) = true) : PyData.canLayAll0 ds = true := plain_lay h
theorem room_in {A : Around} {ds : List D} {d : D} (h : plain d = true) (hu : A.units + 100 < cLine) : A.units + 1 + min (PyData.depthAll ds) d.depth < cLine := by
  have := plain_depth h
  omega
theorem c_in (hu : X.A.units + 100 < cLine) : CmpD X T .In inD := fun pins s σ H S x y v u d e r Q I rx ry px py eo q => by
  unfold inD at eo
  split at eo
  · rename_i ys
    split at eo
    · rename_i hp
      cases eo
      obtain ⟨h1, h2⟩ := Bool.and_eq_true_iff.mp hp
      obtain ⟨as, r1⟩ := Dp.reads I d x v (px.dp h1) rx
      obtain ⟨bs, r2⟩ := Dp.reads I (.list ys) y u (py.dp h2) ry
      exact SeqAt.in_list_reads r2 r1 (plain_items h2) (plain_lay h1) (room_in h1 hu) ⟨.bl _, H, I, rfl, q _ rfl⟩
    · cases eo
  · rename_i ys
    split at eo
    · rename_i hp
      cases eo
      obtain ⟨h1, h2⟩ := Bool.and_eq_true_iff.mp hp
      obtain ⟨as, r1⟩ := Dp.reads I d x v (px.dp h1) rx
      obtain ⟨bs, r2⟩ := Dp.reads I (.tuple ys) y u (py.dp h2) ry
      exact SeqAt.in_tuple_reads r2 r1 (plain_items2 h2) (plain_lay h1) (room_in h1 hu) ⟨.bl _, H, I, rfl, q _ rfl⟩
    · cases eo
  · rename_i kvs
    split at eo
    · rename_i hp
      cases eo
      exact in_dict (by omega) I ry rx py px hp (q _ rfl)
    · cases eo
  · cases eo
theorem c_nin (hu : X.A.units + 100 < cLine) : CmpD X T .NotIn ninD := fun pins s σ H S x y v u d e r Q I rx ry px py eo q => by
  unfold ninD at eo
  split at eo
  · rename_i ys
    split at eo
    · rename_i hp
      cases eo
      obtain ⟨h1, h2⟩ := Bool.and_eq_true_iff.mp hp
      obtain ⟨as, r1⟩ := Dp.reads I d x v (px.dp h1) rx
      obtain ⟨bs, r2⟩ := Dp.reads I (.list ys) y u (py.dp h2) ry
      exact SeqAt.notIn_list_reads r2 r1 (plain_items h2) (plain_lay h1) (room_in h1 hu) ⟨.bl _, H, I, rfl, q _ rfl⟩
    · cases eo
  · rename_i ys
    split at eo
    · rename_i hp
      cases eo
      obtain ⟨h1, h2⟩ := Bool.and_eq_true_iff.mp hp
      obtain ⟨as, r1⟩ := Dp.reads I d x v (px.dp h1) rx
      obtain ⟨bs, r2⟩ := Dp.reads I (.tuple ys) y u (py.dp h2) ry
      exact SeqAt.notIn_tuple_reads r2 r1 (plain_items2 h2) (plain_lay h1) (room_in h1 hu) ⟨.bl _, H, I, rfl, q _ rfl⟩
    · cases eo
  · rename_i kvs
    split at eo
    · rename_i hp
      cases eo
      exact nin_dict (by omega) I ry rx py px hp (q _ rfl)
    · cases eo
  · cases eo
theorem b_in : BoolO inD := fun d e r h => by
  unfold inD at h
  split at h <;> (try split at h) <;> cases h <;> exact ⟨_, rfl⟩
theorem b_nin : BoolO ninD := fun d e r h => by
  unfold ninD at h
  split at h <;> (try split at h) <;> cases h <;> exact ⟨_, rfl⟩

/-! ### a[b] -/
theorem dict_at {value slice : Expr} {pins : List (Addr × Obj)} {s : Shared} {σ : L2.St} {H : Hp} {a : Addr} {y z : V} {u : Value} {Q : VK} (hu : X.A.units + 1 < cLine) (I : Inv X pins σ H s) (g : DGet H a y (some z)) (ry : RelV y u)
    (hs : subscripted slice false (.ref a) u = operate [.ref a, u] (getItem (.ref a) u)) (q : Q z H) : wpAny (model X.prog X.w) X.A (subscriptTail value slice (.ref a) u) (EP X pins σ Q) X.xe s := by
  have hT := dict_typeIs I g
  unfold subscriptTail
  refine wpAny_bind ?_
  rw [getitemInPython_of_ne hT.not_modules]
  refine wpAny_bind (wpAny_specialOf hT PySem.F.slot_dict_getitem.lookup ?_)
  have fin : wpAny (model X.prog X.w) X.A (subscripted slice false (.ref a) u) (fun r s₃ => wpAny (model X.prog X.w) X.A (letTemporaryGo value (.ref a) r >>= fun _ => pure r) (EP X pins σ Q) X.xe s₃) X.xe s := by
    rw [hs]
    exact wpAny_operating (d_getItem hu I g ry fun w' s3 I3 rw' => wpAny_bind (wpAny_letTemporaryGo (wpAny_pure ⟨z, H, I3, rw', q⟩)))
  first
    | exact wpAny_pure (wpAny_bind fin)
    | exact wpAny_bind (wpAny_pure (wpAny_bind fin))
    | exact wpAny_bind fin
theorem e_ix (hu : X.A.units + 1 < cLine) (ha : DB X T a f) (hb : DE X T b g) (hs : PlainIx b := by intro _ _; rfl) : DE X T (.Subscript a b pos) (opE ixD f g) := by
  refine ⟨⟨fun pins s σ H Q I ⟨S, r, d, eo, ef, q⟩ => ?_⟩⟩
  obtain ⟨dx, dy, ex, ey, eo2⟩ := opE_some ef
  refine Subscript_ (bin_some (ha := ha) (hb := e_toB hb) I eo ex ey fun v u s2 x y H2 I2 n rx ry px py => ?_)
  unfold ixD at eo2
  split at eo2
  · rename_i xs i
    obtain ⟨p, vs, rfl, hl, rr⟩ := px.list
    obtain rfl := py.int
    obtain ⟨z, ez, rz⟩ := rr.at eo2
    exact ix_list a b pins s2 σ H2 _ _ v u Q I2 rx ry ⟨p, vs, i, z, rfl, rfl, hl, ez, q z H2 n rz⟩ (hs _ _)
  · rename_i xs i
    obtain ⟨p, vs, rfl, hl, rr⟩ := px.tuple
    obtain rfl := py.int
    obtain ⟨z, ez, rz⟩ := rr.at eo2
    exact ix_tup a b pins s2 σ H2 _ _ v u Q I2 rx ry ⟨p, vs, i, z, rfl, rfl, .of hl, ez, q z H2 n rz⟩ (hs _ _)
  · rename_i kvs
    split at eo2
    · rename_i hf
      have hne : kvs ≠ [] := fun z => by subst z; cases eo2
      obtain ⟨p, rfl, ⟨e1, g1⟩ | ⟨e2, z, h1, g1, h3⟩⟩ := dget_of px py hf hne
      · rw [e1] at eo2; cases eo2
      · rw [h1] at eo2
        cases eo2
        cases rx
        exact dict_at hu I2 g1 ry (hs _ _) (q z H2 n h3)
    · cases eo2
  · cases eo2

/-! ### slices -/
theorem cut_eq {α : Type} (xs : List α) (lo hi : Option Int) : cutL xs lo hi = (xs.drop (HT.sIx xs.length 0 lo)).take (HT.sIx xs.length xs.length hi - HT.sIx xs.length 0 lo) := by
  cases lo <;> cases hi <;> rfl
theorem RpAll.cut {K : PySem.W.Frag} {H : Hp} {xs : List V} {ds : List D} (r : RpAll K H xs ds) (lo hi : Option Int) : RpAll K H (cutV xs lo hi) (cutL ds lo hi) := by
  rw [cut_eq]
  unfold cutV
  rw [r.length]
  exact (r.drop _).take _
/-- a part of a slice -/
def tDO (K : PySem.W.Frag) (T : List Addr) (f : Option E) : TO := fun σ H Q => ∃ S r o, EnvOk K T S H σ r ∧ partE f r = some o ∧ ∀ H', Nxt T H H' → Q o H'
structure DO (X : Cx) (T : List Addr) (e : Option Expr) (f : Option E) : Prop where
  po : PO X e (tDO X.K T f)
theorem PO.imp {e : Option Expr} {t u : TO} (h : PO X e t) (i : ∀ σ H Q, u σ H Q → t σ H Q) : PO X e u := ⟨fun pins s σ H Q I q => h.run pins s σ H Q I (i σ H Q q)⟩
theorem so_none : DO X T none none := ⟨PO.imp po_none fun σ H Q ⟨S, r, o, eo, ef, q⟩ => by cases ef; exact q H (Nxt.refl eo.tabs)⟩
theorem so_some (ha : DE X T a f) : DO X T (some a) (some f) := ⟨PO.imp (po_some ha.pe) fun σ H Q ⟨S, r, o, eo, ef, q⟩ => by
  unfold partE at ef
  simp only at ef
  split at ef
  · rename_i i e1
    cases ef
    exact ⟨S, r, _, eo, e1, fun v H' n rp => ⟨i, by cases rp; rfl, q H' n⟩⟩
  · cases ef⟩
theorem cutE_some {f : E} {lo hi : Option E} {r : Env} {d : D} (h : cutE f lo hi r = some d) : ∃ x l u, f r = some x ∧ partE lo r = some l ∧ partE hi r = some u ∧ ((∃ xs, x = .list xs ∧ d = .list (cutL xs l u)) ∨ ∃ xs, x = .tuple xs ∧ d = .tuple (cutL xs l u)) := by
  simp only [cutE, Option.bind_eq_bind, Option.bind_eq_some_iff] at h
  obtain ⟨x, h1, l, h2, u, h3, h4⟩ := h
  refine ⟨x, l, u, h1, h2, h3, ?_⟩
  unfold cutD at h4
  split at h4
  · cases h4; exact .inl ⟨_, rfl, rfl⟩
  · cases h4; exact .inr ⟨_, rfl, rfl⟩
  · cases h4
theorem whole_eq {α : Type} {xs : List α} {lo hi : Option Int} (h : HT.sIx xs.length 0 lo = 0 ∧ HT.sIx xs.length xs.length hi = xs.length) : cutL xs lo hi = xs := by
  rw [cut_eq, h.1, h.2]; simp
theorem e_cut {lo hi : Option Expr} {fl fh : Option E} {p2 : Pos} (ha : DB X T a f) (hl : DO X T lo fl) (hh : DO X T hi fh) : DE X T (.Subscript a (.Slice lo hi none p2) pos) (cutE f fl fh) := by
  have key := pe_slice (pos := pos) (p2 := p2) (SlR.or sl_list sl_tupA) ha.pe hl.po hh.po
  refine ⟨PE.imp key fun σ H Q ⟨S, r, d, o, ef, q⟩ => ?_⟩
  obtain ⟨x, l, u, e1, e2, e3, e4⟩ := cutE_some ef
  refine ⟨S, r, x, o, e1, fun v H1 n1 p1 => ⟨S, r, l, o.nxt n1, e2, fun H2 n2 => ⟨S, r, u, o.nxt (n1.trans n2), e3, fun H3 n3 => ?_⟩⟩⟩
  have n13 := (n1.trans n2).trans n3
  have p3 : RpB X.K S H3 v x := p1.nxt (n2.trans n3)
  have l3 := o.live.ext n13.ext
  rcases e4 with ⟨xs, rfl, rfl⟩ | ⟨xs, rfl, rfl⟩
  · obtain ⟨p, vs, rfl, hs, rr⟩ := p3.list
    refine .inl ⟨p, vs, rfl, hs, fun p2 hp2 => ?_⟩
    obtain ⟨n4, ow⟩ := own_newlst (T := T) n13.tabs l3 hp2 (rr.cut l u)
    exact q _ _ (n13.trans n4) (own_rp (T := T) l3 hp2 ow)
  · obtain ⟨p, vs, rfl, hs, rr⟩ := p3.tuple
    refine .inr ⟨p, vs, rfl, .of hs, ?_⟩
    first
      | (refine ⟨fun hw => ?_, fun hw p2 hp2 => ?_⟩
         · rw [rr.length] at hw
           rw [whole_eq hw] at q
           rcases p3 with h | ⟨p', e', o'⟩
           · exact q _ H3 n13 h
           · cases o'
         · obtain ⟨n4, rp⟩ := rp_newtup n13.tabs l3 hp2 (rr.cut l u)
           exact q _ _ (n13.trans n4) rp)
end
end Dm
end

section
set_option Elab.async false
set_option linter.all false
set_option autoImplicit true
set_option maxRecDepth 100000
set_option maxHeartbeats 1000000
/-! DExp5: calls of defs; built-ins by values. -/
namespace Dm
open PySem PySem.Spec PyProof.Rows L2

/-! ### defs -/
/-- what a def computes -/
def spD (K : PySem.W.Frag) (T : List Addr) (n : Nat) (F : List D → Option D) : Sp := fun vs H Q _ => ∃ O ds r, vs.length = n ∧ Tabs T H ∧ Live O H ∧ RpAll K (mns O H) vs ds ∧ F ds = some r ∧ ∀ v H', Nxt T H H' → Rp K (mns O H') v r → Q v H'
structure DefOk (P : Program) (w : World) (K : PySem.W.Frag) (mg : Str → Option Value) (base : Heap) (T : List Addr) (x : Str) (k n : Nat) (F : List D → Option D) : Prop where
  ok : ∃ f fd ps, FnOk P w K mg base CX0 k f fd ps (spD K T n F) ∧ mg x = some (.ref f) ∧ PySem.W.keepIn K (.ref f) = true ∧ Binds K fd ps []
theorem DefOk.mono {P : Program} {w : World} {K : PySem.W.Frag} {mg : Str → Option Value} {base : Heap} {T : List Addr} {x : Str} {j k n : Nat} {F : List D → Option D} (G : DefOk P w K mg base T x j n F) (h : j ≤ k) : DefOk P w K mg base T x k n F := by
  obtain ⟨f, fd, ps, h1, h2⟩ := G.ok
  exact ⟨f, fd, ps, h1.mono h, h2⟩
theorem RpBs.full {K : PySem.W.Frag} {S : List Addr} {H : Hp} : ∀ {vs : List V} {ds : List D}, RpBs K S H vs ds → RpAll K H vs ds
  | _, _, .nil => .nil
  | _, _, .cons a b => .cons a.full b.full
theorem mns_nil (H : Hp) : mns [] H = H := by
  funext a
  exact mns_of (by simp)
theorem callE_some {F : List D → Option D} {fs : List E} {r : Env} {d : D} (h : callE F fs r = some d) : ∃ ds, argsE fs r = some ds ∧ F ds = some d := by
  simp only [callE, Option.bind_eq_bind, Option.bind_eq_some_iff] at h
  exact h
section
variable {X : Cx} {T : List Addr} {e a b c : Expr} {es rest : List Expr} {f g h : E} {fs : List E} {pos p : Pos} {u v w : Dm.T}
theorem RpAll.length' {K : PySem.W.Frag} {H : Hp} {vs : List V} {ds : List D} {n : Nat} (r : RpAll K H vs ds) (h : ds.length = n) : vs.length = n := r.length.trans h
theorem e_call {x : Str} {k k' n : Nat} {F : List D → Option D} (G : DefOk X.prog X.w X.K X.mg X.base T x k n F) (hr : Room k' X.A) (ha : DA X T (e :: es) fs) (hk : k ≤ k' := by decide) (hn : fs.length = n := by rfl) (hg : Gl X x := by rfl)
    (hdb : (x == ("__debug__" : Str)) = false := by decide) (he : starEach (e :: es) X.env = (false, eval e X.env) :: starEach es X.env := by rfl) (hpl : (backTo pos (starEach es X.env)).any (·.1) = false := by rfl) :
    DE X T (.Call (.Name x p) (e :: es) [] pos) (callE F fs) := by
  obtain ⟨f, fd, ps, h1, h2, h3, h4⟩ := G.ok
  refine ⟨PE.imp (pe_call h1 (hr.mono hk) hg h2 h3 h4 .nil pass0 ha.pa hdb he hpl) fun σ H Q ⟨S, r, d, o, ef, q⟩ => ?_⟩
  obtain ⟨ds, e1, e2⟩ := callE_some ef
  refine ⟨S, r, ds, o, e1, fun vs H1 n1 p1 => ?_⟩
  show spD X.K T n F (vs ++ []) H1 Q E0
  rw [List.append_nil]
  exact ⟨S, ds, d, p1.length' ((argsE_len e1).trans hn), n1.tabs, o.live.ext n1.ext, p1, e2, fun v H' n2 rp => q v H' (n1.trans n2) rp⟩
theorem callB_some {F : List D → Option D} {fs : List E} {r : Env} {d : D} (h : callB F fs r = some d) : ∃ ds, argsE fs r = some ds ∧ F ds = some d ∧ fixed d = true := by
  simp only [callB, Option.bind_eq_bind, Option.bind_eq_some_iff] at h
  obtain ⟨ds, h1, d', h2, h3⟩ := h
  split at h3
  · rename_i hf
    cases h3
    exact ⟨ds, h1, h2, hf⟩
  · cases h3
theorem e_callB {x : Str} {k k' n : Nat} {F : List D → Option D} (G : DefOk X.prog X.w X.K X.mg X.base T x k n F) (hr : Room k' X.A) (ha : DAB X T (e :: es) fs) (hk : k ≤ k' := by decide) (hn : fs.length = n := by rfl) (hg : Gl X x := by rfl)
    (hdb : (x == ("__debug__" : Str)) = false := by decide) (he : starEach (e :: es) X.env = (false, eval e X.env) :: starEach es X.env := by rfl) (hpl : (backTo pos (starEach es X.env)).any (·.1) = false := by rfl) :
    DE X T (.Call (.Name x p) (e :: es) [] pos) (callB F fs) := by
  obtain ⟨f, fd, ps, h1, h2, h3, h4⟩ := G.ok
  refine ⟨PE.imp (pe_call h1 (hr.mono hk) hg h2 h3 h4 .nil pass0 ha.pa hdb he hpl) fun σ H Q ⟨S, r, d, o, ef, q⟩ => ?_⟩
  obtain ⟨ds, e1, e2, e3⟩ := callB_some ef
  refine ⟨S, r, ds, o, e1, fun vs H1 n1 p1 => ?_⟩
  show spD X.K T n F (vs ++ []) H1 Q E0
  rw [List.append_nil]
  refine ⟨[], ds, d, p1.full.length' ((argsE_len e1).trans hn), n1.tabs, (fun a z => by simp at z), ?_, e2, fun v H' n2 rp => ?_⟩
  · rw [mns_nil]; exact p1.full
  · rw [mns_nil] at rp
    exact q v H' (n1.trans n2) (rp.stays (o.live.ext (n1.trans n2).ext).notup e3)

/-! ### built-ins by values -/
def rD (K : PySem.W.Frag) (T : List Addr) (o : List D → Option D) : List V → Hp → VK → Prop := fun xs H Q => ∃ S ds r, Tabs T H ∧ Live S H ∧ RpBs K S H xs ds ∧ o ds = some r ∧ ∀ z H', Nxt T H H' → Rp K (mns S H') z r → Q z H'
def rF (K : PySem.W.Frag) (T : List Addr) (o : List D → Option D) : List V → Hp → VK → Prop := fun xs H Q => ∃ S ds r, Tabs T H ∧ Live S H ∧ RpBs K S H xs ds ∧ o ds = some r ∧ ∀ p H', H p = none → Nxt T H H' → Own K (p :: S) H' p r → Q (.ref p) H'
/-- one value -/
def on1 (o : D → Option D) : List D → Option D
  | [d] => o d
  | _ => none
def on2 (o : D → D → Option D) : List D → Option D
  | [d, e] => o d e
  | _ => none
theorem on1_some {o : D → Option D} {ds : List D} {r : D} (h : on1 o ds = some r) : ∃ d, ds = [d] ∧ o d = some r := by
  unfold on1 at h
  split at h
  · exact ⟨_, rfl, h⟩
  · cases h
theorem on2_some {o : D → D → Option D} {ds : List D} {r : D} (h : on2 o ds = some r) : ∃ d e, ds = [d, e] ∧ o d e = some r := by
  unfold on2 at h
  split at h
  · exact ⟨_, _, rfl, h⟩
  · cases h
theorem RpBs.one {K : PySem.W.Frag} {S : List Addr} {H : Hp} {xs : List V} {d : D} (h : RpBs K S H xs [d]) : ∃ x, xs = [x] ∧ RpB K S H x d := by
  cases h with
  | cons a b => cases b; exact ⟨_, rfl, a⟩
theorem RpBs.two {K : PySem.W.Frag} {S : List Addr} {H : Hp} {xs : List V} {d e : D} (h : RpBs K S H xs [d, e]) : ∃ x y, xs = [x, y] ∧ RpB K S H x d ∧ RpB K S H y e := by
  cases h with
  | cons a b => obtain ⟨y, rfl, hy⟩ := b.one; exact ⟨_, _, rfl, a, hy⟩
theorem CallR.imp {fv : Value} {r r' : List V → Hp → VK → Prop} (h : CallR X fv r) (i : ∀ xs H Q, r' xs H Q → r xs H Q) : CallR X fv r' := fun pins s σ H xs us Q I rx q => h pins s σ H xs us Q I rx (i xs H Q q)
theorem e_bi {x : Str} {id : String} {o : List D → Option D} (hc : CallR X (.builtin id) (rD X.K T o)) (hm : X.mg x = none) (hv : bootBuiltins x = some (.builtin id)) (ha : DAB X T (e :: es) fs) (hg : Gl X x := by rfl) (hn : x ≠ "__name__" := by decide)
    (hdb : (x == ("__debug__" : Str)) = false := by decide) (he : starEach (e :: es) X.env = (false, eval e X.env) :: starEach es X.env := by rfl) (hpl : (backTo pos (starEach es X.env)).any (·.1) = false := by rfl) :
    DE X T (.Call (.Name x p) (e :: es) [] pos) (callE o fs) := ⟨PE.imp (pe_callB hc hg hm hv ha.pa hn hdb he hpl) fun σ H Q ⟨S, r, d, eo, ef, q⟩ => by
  obtain ⟨ds, e1, e2⟩ := callE_some ef
  exact ⟨S, r, ds, eo, e1, fun vs H1 n1 p1 => ⟨S, ds, d, n1.tabs, eo.live.ext n1.ext, p1, e2, fun v H' n2 rp => q v H' (n1.trans n2) rp⟩⟩⟩
theorem e_bt {x : Str} {id : String} {o : List D → Option D} (hc : CallR X (.type id) (rD X.K T o)) (hm : X.mg x = none) (hv : bootBuiltins x = some (.type id)) (ha : DAB X T (e :: es) fs) (hg : Gl X x := by rfl) (hn : x ≠ "__name__" := by decide)
    (hdb : (x == ("__debug__" : Str)) = false := by decide) (he : starEach (e :: es) X.env = (false, eval e X.env) :: starEach es X.env := by rfl) (hpl : (backTo pos (starEach es X.env)).any (·.1) = false := by rfl) :
    DE X T (.Call (.Name x p) (e :: es) [] pos) (callE o fs) := ⟨PE.imp (pe_callTy hc hg hm hv ha.pa hn hdb he hpl) fun σ H Q ⟨S, r, d, eo, ef, q⟩ => by
  obtain ⟨ds, e1, e2⟩ := callE_some ef
  exact ⟨S, r, ds, eo, e1, fun vs H1 n1 p1 => ⟨S, ds, d, n1.tabs, eo.live.ext n1.ext, p1, e2, fun v H' n2 rp => q v H' (n1.trans n2) rp⟩⟩⟩
theorem f_bi {x : Str} {id : String} {o : List D → Option D} (hc : CallR X (.builtin id) (rF X.K T o)) (hm : X.mg x = none) (hv : bootBuiltins x = some (.builtin id)) (ha : DAB X T (e :: es) fs) (hg : Gl X x := by rfl) (hn : x ≠ "__name__" := by decide)
    (hdb : (x == ("__debug__" : Str)) = false := by decide) (he : starEach (e :: es) X.env = (false, eval e X.env) :: starEach es X.env := by rfl) (hpl : (backTo pos (starEach es X.env)).any (·.1) = false := by rfl) :
    DF X T (.Call (.Name x p) (e :: es) [] pos) (callE o fs) := ⟨PE.imp (pe_callB hc hg hm hv ha.pa hn hdb he hpl) fun σ H Q ⟨S, r, d, eo, ef, q⟩ => by
  obtain ⟨ds, e1, e2⟩ := callE_some ef
  exact ⟨S, r, ds, eo, e1, fun vs H1 n1 p1 => ⟨S, ds, d, n1.tabs, eo.live.ext n1.ext, p1, e2, fun p H' hp n2 ow => q p H' (n1.free hp) (n1.trans n2) ow⟩⟩⟩
theorem f_bt {x : Str} {id : String} {o : List D → Option D} (hc : CallR X (.type id) (rF X.K T o)) (hm : X.mg x = none) (hv : bootBuiltins x = some (.type id)) (ha : DAB X T (e :: es) fs) (hg : Gl X x := by rfl) (hn : x ≠ "__name__" := by decide)
    (hdb : (x == ("__debug__" : Str)) = false := by decide) (he : starEach (e :: es) X.env = (false, eval e X.env) :: starEach es X.env := by rfl) (hpl : (backTo pos (starEach es X.env)).any (·.1) = false := by rfl) :
    DF X T (.Call (.Name x p) (e :: es) [] pos) (callE o fs) := ⟨PE.imp (pe_callTy hc hg hm hv ha.pa hn hdb he hpl) fun σ H Q ⟨S, r, d, eo, ef, q⟩ => by
  obtain ⟨ds, e1, e2⟩ := callE_some ef
  exact ⟨S, r, ds, eo, e1, fun vs H1 n1 p1 => ⟨S, ds, d, n1.tabs, eo.live.ext n1.ext, p1, e2, fun p H' hp n2 ow => q p H' (n1.free hp) (n1.trans n2) ow⟩⟩⟩
/-- the same function -/
theorem DE.of (h : DE X T e f) (i : ∀ r d, g r = some d → f r = some d) : DE X T e g := ⟨PE.imp h.pe fun σ H Q ⟨S, r, d, o, ef, q⟩ => ⟨S, r, d, o, i r d ef, q⟩⟩
theorem DF.of (h : DF X T e f) (i : ∀ r d, g r = some d → f r = some d) : DF X T e g := ⟨PE.imp h.pe fun σ H Q ⟨S, r, d, o, ef, q⟩ => ⟨S, r, d, o, i r d ef, q⟩⟩
theorem un_on1 {o : D → Option D} {r : Env} {d : D} (h : unE o f r = some d) : callE (on1 o) [f] r = some d := by
  obtain ⟨x, e1, e2⟩ := unE_some h
  simp only [callE, argsE, Option.bind_eq_bind, e1, Option.bind_some, on1, e2]
theorem op_on2 {o : D → D → Option D} {r : Env} {d : D} (h : opE o f g r = some d) : callE (on2 o) [f, g] r = some d := by
  obtain ⟨x, y, e1, e2, e3⟩ := opE_some h
  simp only [callE, argsE, Option.bind_eq_bind, e1, e2, Option.bind_some, on2, e3]
theorem cd_len : CallR X (.builtin "len") (rD X.K T (on1 lenD)) := by
  intro pins s σ H xs us Q I rx ⟨S, ds, r, t, l, rp, eo, q⟩
  obtain ⟨d, rfl, e2⟩ := on1_some eo
  obtain ⟨x, rfl, hx⟩ := rp.one
  unfold lenD at e2
  split at e2
  · cases e2
    obtain ⟨a, ys, rfl, hl, rr⟩ := hx.list
    exact call_len_seq pins s σ H _ us Q I rx ⟨a, ys, rfl, .inl hl, by rw [rr.length]; exact q _ H (Nxt.refl t) (.int _)⟩
  · cases e2
    obtain ⟨a, ys, rfl, hl, rr⟩ := hx.tuple
    exact call_len_seq pins s σ H _ us Q I rx ⟨a, ys, rfl, .inr (.of hl), by rw [rr.length]; exact q _ H (Nxt.refl t) (.int _)⟩
  · cases e2
theorem e_len (hm : X.mg "len" = none) (ha : DB X T a f) (hg : Gl X "len" := by rfl) (he : starEach [a] X.env = (false, eval a X.env) :: starEach [] X.env := by rfl) : DE X T (.Call (.Name "len" p) [a] [] pos) (unE lenD f) :=
  (e_bi cd_len hm PySem.boot_len (b_cons ha b_nil he) hg (by decide) (by decide) he).of fun _ _ h => un_on1 h
theorem cd_abs : CallR X (.builtin "abs") (rD X.K T (on1 absD)) := by
  intro pins s σ H xs us Q I rx ⟨S, ds, r, t, l, rp, eo, q⟩
  obtain ⟨d, rfl, e2⟩ := on1_some eo
  obtain ⟨x, rfl, hx⟩ := rp.one
  unfold absD at e2
  split at e2
  · cases e2
    obtain rfl := hx.int
    exact call_abs pins s σ H _ us Q I rx ⟨_, rfl, q _ H (Nxt.refl t) (.int _)⟩
  · cases e2
theorem e_abs (hm : X.mg "abs" = none) (ha : DE X T a f) (hg : Gl X "abs" := by rfl) (he : starEach [a] X.env = (false, eval a X.env) :: starEach [] X.env := by rfl) : DE X T (.Call (.Name "abs" p) [a] [] pos) (unE absD f) :=
  (e_bi cd_abs hm (by decide +kernel) (b_cons (e_toB ha) b_nil he) hg (by decide) (by decide) he).of fun _ _ h => un_on1 h
theorem cd_int : CallR X (.type "int") (rD X.K T (on1 intD)) := by
  intro pins s σ H xs us Q I rx ⟨S, ds, r, t, l, rp, eo, q⟩
  obtain ⟨d, rfl, e2⟩ := on1_some eo
  obtain ⟨x, rfl, hx⟩ := rp.one
  unfold intD at e2
  split at e2
  · cases e2
    obtain rfl := hx.int
    exact call_int1 pins s σ H _ us Q I rx (.inl ⟨_, rfl, q _ H (Nxt.refl t) (.int _)⟩)
  · cases e2
    obtain rfl := hx.bool
    exact call_int1 pins s σ H _ us Q I rx (.inr ⟨_, rfl, q _ H (Nxt.refl t) (.int _)⟩)
  · cases e2
theorem e_intOf (hm : X.mg "int" = none) (ha : DE X T a f) (hg : Gl X "int" := by rfl) (he : starEach [a] X.env = (false, eval a X.env) :: starEach [] X.env := by rfl) : DE X T (.Call (.Name "int" p) [a] [] pos) (unE intD f) :=
  (e_bt cd_int hm (by decide +kernel) (b_cons (e_toB ha) b_nil he) hg (by decide) (by decide) he).of fun _ _ h => un_on1 h
theorem cd_max2 (hc : X.calm = true) : CallR X (.builtin "max") (rD X.K T (on2 max2)) := by
  intro pins s σ H xs us Q I rx ⟨S, ds, r, t, l, rp, eo, q⟩
  obtain ⟨d, e, rfl, e2⟩ := on2_some eo
  obtain ⟨x, y, rfl, hx, hy⟩ := rp.two
  unfold max2 at e2
  split at e2
  · cases e2
    obtain rfl := hx.int
    obtain rfl := hy.int
    exact call_max2 hc pins s σ H _ us Q I rx ⟨_, _, rfl, q _ H (Nxt.refl t) (.int _)⟩
  · cases e2
theorem cd_min2 (hc : X.calm = true) : CallR X (.builtin "min") (rD X.K T (on2 min2)) := by
  intro pins s σ H xs us Q I rx ⟨S, ds, r, t, l, rp, eo, q⟩
  obtain ⟨d, e, rfl, e2⟩ := on2_some eo
  obtain ⟨x, y, rfl, hx, hy⟩ := rp.two
  unfold min2 at e2
  split at e2
  · cases e2
    obtain rfl := hx.int
    obtain rfl := hy.int
    exact call_min2 hc pins s σ H _ us Q I rx ⟨_, _, rfl, q _ H (Nxt.refl t) (.int _)⟩
  · cases e2
theorem e_max2 (hm : X.mg "max" = none) (ha : DE X T a f) (hb : DE X T b g) (hg : Gl X "max" := by rfl) (he : starEach [a, b] X.env = (false, eval a X.env) :: starEach [b] X.env := by rfl) (he2 : starEach [b] X.env = (false, eval b X.env) :: starEach [] X.env := by rfl)
    (hc : X.calm = true := by rfl) (hpl : (backTo pos (starEach [b] X.env)).any (·.1) = false := by rfl) : DE X T (.Call (.Name "max" p) [a, b] [] pos) (opE max2 f g) :=
  (e_bi (cd_max2 hc) hm (by decide +kernel) (b_cons (e_toB ha) (b_cons (e_toB hb) b_nil he2) he) hg (by decide) (by decide) he hpl).of fun _ _ h => op_on2 h
theorem e_min2 (hm : X.mg "min" = none) (ha : DE X T a f) (hb : DE X T b g) (hg : Gl X "min" := by rfl) (he : starEach [a, b] X.env = (false, eval a X.env) :: starEach [b] X.env := by rfl) (he2 : starEach [b] X.env = (false, eval b X.env) :: starEach [] X.env := by rfl)
    (hc : X.calm = true := by rfl) (hpl : (backTo pos (starEach [b] X.env)).any (·.1) = false := by rfl) : DE X T (.Call (.Name "min" p) [a, b] [] pos) (opE min2 f g) :=
  (e_bi (cd_min2 hc) hm (by decide +kernel) (b_cons (e_toB ha) (b_cons (e_toB hb) b_nil he2) he) hg (by decide) (by decide) he hpl).of fun _ _ h => op_on2 h
end
end Dm
end

section
set_option Elab.async false
set_option linter.all false
set_option autoImplicit true
set_option maxRecDepth 100000
set_option maxHeartbeats 1000000
/-! DIter: targets, what is walked, list comprehensions. -/
namespace Dm
open PySem PySem.Spec PyProof.Rows L2

/-! ### targets -/
mutual
def Tg.slots : Tg → List Nat
  | .nm i => [i]
  | .tp ts => Tg.slotsAll ts
def Tg.slotsAll : List Tg → List Nat
  | [] => []
  | t :: ts => t.slots ++ Tg.slotsAll ts
end
/-- σ' is σ but for some slots -/
def Upd (js : List Nat) (σ σ' : L2.St) : Prop := σ'.length = σ.length ∧ ∀ j, j ∉ js → σ'[j]? = σ[j]?
theorem Upd.refl (js : List Nat) (σ : L2.St) : Upd js σ σ := ⟨rfl, fun _ _ => rfl⟩
theorem Upd.trans {js ks : List Nat} {σ σ1 σ2 : L2.St} (a : Upd js σ σ1) (b : Upd ks σ1 σ2) : Upd (js ++ ks) σ σ2 := ⟨b.1.trans a.1, fun j h => by
  rw [List.mem_append, not_or] at h
  exact (b.2 j h.2).trans (a.2 j h.1)⟩
theorem Upd.mono {js ks : List Nat} {σ σ1 : L2.St} (a : Upd js σ σ1) (h : ∀ j ∈ js, j ∈ ks) : Upd ks σ σ1 := ⟨a.1, fun j q => a.2 j fun z => q (h j z)⟩
theorem wipe_get (σ : L2.St) : ∀ (vs : List Nat) (j : Nat), (L2.wipe σ vs)[j]? = if j ∈ vs then (if j < σ.length then some none else none) else σ[j]?
  | [], j => by simp [L2.wipe]
  | v :: vs, j => by
    unfold L2.wipe
    by_cases h : v = j
    · subst h
      rw [List.getElem?_set_self', wipe_get σ vs v]
      simp only [List.mem_cons, true_or, if_true]
      by_cases hl : v < σ.length
      · by_cases hv : v ∈ vs
        · simp [hv, hl]
        · simp [hv, hl]
      · by_cases hv : v ∈ vs
        · simp [hv, hl]
        · simp [hv, hl, List.getElem?_eq_none (Nat.le_of_not_lt hl)]
    · rw [List.getElem?_set_ne h, wipe_get σ vs j]
      simp [List.mem_cons, Ne.symm h]
theorem Upd.wipe {js vs : List Nat} {σ σ' : L2.St} (u : Upd js (L2.wipe σ vs) σ') (h : ∀ j ∈ js, j ∈ vs) : L2.wipe σ' vs = L2.wipe σ vs := by
  apply List.ext_getElem?
  intro j
  rw [wipe_get, wipe_get, u.1, wipe_length]
  by_cases hj : j ∈ vs
  · simp [hj]
  · rw [if_neg hj, if_neg hj, u.2 j fun z => hj (h j z), wipe_get, if_neg hj]
def tDG (K : PySem.W.Frag) (T : List Addr) (t : Tg) : TG := fun v σ H Q => ∃ S r d r', EnvOk K T S H σ r ∧ Rp K (mns S H) v d ∧ asg t d r = some r' ∧ ∀ σ', EnvOk K T S H σ' r' → Upd t.slots σ σ' → Q σ' H
def tDGs (K : PySem.W.Frag) (T : List Addr) (ts : List Tg) : TGs := fun vs σ H Q => ∃ S r ds r', EnvOk K T S H σ r ∧ RpAll K (mns S H) vs ds ∧ ds.length = ts.length ∧ asgs ts ds r = some r' ∧ ∀ σ', EnvOk K T S H σ' r' → Upd (Tg.slotsAll ts) σ σ' → Q σ' H
structure DG (X : Cx) (T : List Addr) (e : Expr) (t : Tg) : Prop where
  pg : PG X e (tDG X.K T t)
structure DGs (X : Cx) (T : List Addr) (es : List Expr) (ts : List Tg) : Prop where
  pg : PGs X es (tDGs X.K T ts)
theorem PG.imp {X : Cx} {e : Expr} {t u : TG} (h : PG X e t) (i : ∀ v σ H Q, u v σ H Q → t v σ H Q) : PG X e u := ⟨fun pins s σ H v x Q I r q => h.run pins s σ H v x Q I r (i v σ H Q q)⟩
theorem PGs.imp {X : Cx} {e : List Expr} {t u : TGs} (h : PGs X e t) (i : ∀ v σ H Q, u v σ H Q → t v σ H Q) : PGs X e u := ⟨fun pins s σ H v x Q I r q => h.run pins s σ H v x Q I r (i v σ H Q q)⟩
section
variable {X : Cx} {T : List Addr} {e a b c : Expr} {es rest : List Expr} {f g h : E} {fs : List E} {pos p : Pos}
theorem g_nm (i : Nat) {x : Str} (hN : X.N.Nodup) (hi : X.N[i]? = some x := by rfl) (hx : Loc X.env.scope x := by first | exact Or.inl rfl | exact Or.inr rfl) (hf : X.fn x = true ∨ X.env.scope.names.lookup x = some .local := by first | exact .inl rfl | exact .inr rfl) : DG X T (.Name x pos) (.nm i) :=
  ⟨PG.imp (pg_name hN hi hx hf) fun v σ H Q ⟨S, r, d, r', o, rp, ea, q⟩ => by
    simp only [asg, Option.some.injEq] at ea
    subst ea
    exact q _ (o.setVa rp) ⟨List.length_set, fun j hj => List.getElem?_set_ne fun z => hj (by simp [Tg.slots, z])⟩⟩
theorem gs_nil : DGs X T [] [] := ⟨PGs.imp pgs_nil fun v σ H Q ⟨S, r, ds, r', o, rp, hl, ea, q⟩ => by
  cases ds with
  | nil =>
    cases rp
    simp only [asgs, Option.some.injEq] at ea
    subst ea
    exact ⟨rfl, q σ o (Upd.refl _ _)⟩
  | cons a b => cases hl⟩
theorem gs_cons {t : Tg} {ts : List Tg} (h1 : DG X T e t) (h2 : DGs X T es ts) (hs : (assignEach (e :: es) X.env).map (·.2) = assign e X.env :: (assignEach es X.env).map (·.2) := by rfl) : DGs X T (e :: es) (t :: ts) := ⟨PGs.imp (pgs_cons h1.pg h2.pg hs) fun v σ H Q ⟨S, r, ds, r', o, rp, hl, ea, q⟩ => by
  cases rp with
  | nil => cases hl
  | cons ra rb =>
    rename_i v' vs' d' ds'
    simp only [asgs, Option.bind_eq_bind, Option.bind_eq_some_iff] at ea
    obtain ⟨r1, e1, e2⟩ := ea
    refine ⟨_, _, rfl, S, r, _, r1, o, ra, e1, fun σ1 o1 u1 => ⟨S, r1, _, r', o1, rb, Nat.succ.inj hl, e2, fun σ2 o2 u2 => q σ2 o2 (u1.trans u2)⟩⟩⟩
theorem g_tp {ts : List Tg} {k : Nat} (h : DGs X T es ts) (hc : X.calm = true := by rfl) (hn : (assignEach es X.env).length = ts.length := by rfl) (hst : (assignEach es X.env).findIdx? (·.1) = none := by rfl) : DG X T (.Tuple es k pos) (.tp ts) :=
  ⟨PG.imp (pg_tup hc h.pg hn hst) fun v σ H Q ⟨S, r, d, r', o, rp, ea, q⟩ => by
    unfold asg at ea
    split at ea
    · rename_i ds
      split at ea
      · rename_i hl
        cases rp with
        | tup hH rr => exact ⟨_, _, rfl, .of (mns_some hH).1, rr.length.trans hl.symm, S, r, _, r', o, rr, hl.symm, ea, fun σ' o' u' => q σ' o' u'⟩
      · cases ea
    · cases ea⟩

/-! ### what is walked -/
/-- what may be looked at, or what stays -/
def RpQ (K : PySem.W.Frag) (b : Bool) (S : List Addr) (H : Hp) (v : V) (d : D) : Prop := match b with
  | true => RpB K S H v d
  | false => Rp K (mns S H) v d
theorem RpQ.look {K : PySem.W.Frag} {q : Bool} {S : List Addr} {H : Hp} {v : V} {d : D} (h : RpQ K q S H v d) : RpB K S H v d := by
  cases q with
  | true => exact h
  | false => exact .inl h
theorem RpQ.nxt {K : PySem.W.Frag} {T : List Addr} {q : Bool} {S : List Addr} {H H' : Hp} {v : V} {d : D} (n : Nxt T H H') (h : RpQ K q S H v d) : RpQ K q S H' v d := by
  cases q with
  | true => exact RpB.nxt n h
  | false => exact Rp.nxt n h
/-- a value: looked at (true), or one that stays (false) -/
structure DQ (X : Cx) (T : List Addr) (q : Bool) (e : Expr) (f : E) : Prop where
  pe : PE X e (fun σ H Q => ∃ S r d, EnvOk X.K T S H σ r ∧ f r = some d ∧ ∀ v H', Nxt T H H' → RpQ X.K q S H' v d → Q v H')
theorem q_b (h : DB X T e f) : DQ X T true e f := ⟨h.pe⟩
theorem q_e (h : DE X T e f) : DQ X T false e f := ⟨h.pe⟩
/-- kept values -/
abbrev Kp := List (V × D)
/-- objects that stand as they are -/
abbrev Fxs := List (Addr × HO)
def Fx (fx : Fxs) (S : List Addr) (H : Hp) : Prop := ∀ q ∈ fx, H q.1 = some q.2 ∧ q.1 ∉ S ∧ ∀ ps, q.2 ≠ .tbl ps
theorem Fx.nil {S : List Addr} {H : Hp} : Fx [] S H := fun q h => by cases h
theorem Fx.nxt {T : List Addr} {fx : Fxs} {S : List Addr} {H H' : Hp} (f : Fx fx S H) (n : Nxt T H H') : Fx fx S H' := fun q h => by
  obtain ⟨h1, h2, h3⟩ := f q h
  exact ⟨n.ext _ _ h1 h3, h2, h3⟩
theorem Fx.more {T : List Addr} {fx : Fxs} {S : List Addr} {H H' : Hp} {p : Addr} (f : Fx fx S H) (hp : H p = none) (n : Nxt T H H') : Fx fx (p :: S) H' := fun q h => by
  obtain ⟨h1, h2, h3⟩ := f q h
  refine ⟨n.ext _ _ h1 h3, fun z => ?_, h3⟩
  rcases List.mem_cons.mp z with z | z
  · rw [z, hp] at h1; cases h1
  · exact h2 z
/-- the iterator hands out ds as long as some values are kept -/
def ItOk (K : PySem.W.Frag) (T : List Addr) (kp : Kp) (fx : Fxs) (ds : List D) (J : It) : Prop := ∀ S H, Tabs T H → Live S H → (∀ q ∈ kp, RpB K S H q.1 q.2) → Fx fx S H →
  (∀ i, ds.length ≤ i → J.stop i H) ∧ ∀ i d, ds[i]? = some d → J.go i H ∧ ∀ x H', J.yld i H x H' → Nxt T H H' ∧ Rp K (mns S H') x d
def tDI (K : PySem.W.Frag) (T : List Addr) (q : Bool) (f : I) : TI := fun σ H R => ∃ S r ds, EnvOk K T S H σ r ∧ f r = some ds ∧ ∀ J H' kp fx, Nxt T H H' → (∀ x ∈ kp, RpQ K q S H' x.1 x.2) → Fx fx S H' → ItOk K T kp fx ds J → R J H'
structure DI (X : Cx) (T : List Addr) (q : Bool) (tg : Expr) (e : Expr) (f : I) : Prop where
  pi : PI X tg e (tDI X.K T q f)
theorem PI.imp {tg : Expr} {t u : TI} (h : PI X tg e t) (i : ∀ σ H R, u σ H R → t σ H R) : PI X tg e u := ⟨fun pins s σ H R I q => h.run pins s σ H R I (i σ H R q)⟩
theorem PI.or {tg : Expr} {t u : TI} (h : PI X tg e t) (h' : PI X tg e u) : PI X tg e (fun σ H R => t σ H R ∨ u σ H R) := ⟨fun pins s σ H R I q => q.elim (h.run pins s σ H R I) (h'.run pins s σ H R I)⟩
theorem it_list {K : PySem.W.Frag} {v : V} {ds : List D} {a : Addr} (hv : v = .ref a) : ItOk K T [(v, .list ds)] [] ds (Itl K a) := fun S H t l k _ => by
  obtain ⟨a', xs, e, hl, rr⟩ := (k (v, .list ds) (by simp)).list
  rw [hv] at e
  cases e
  refine ⟨fun i hi => ⟨xs, hl, by rw [rr.length]; exact hi⟩, fun i d hd => ?_⟩
  obtain ⟨x, hx, rx⟩ := rr.get hd
  exact ⟨⟨xs, x, hl, hx⟩, fun y H' ⟨e1, e2⟩ => by
    subst e1
    have := e2 xs hl
    rw [hx] at this
    cases this
    exact ⟨Nxt.refl t, rx⟩⟩
theorem it_tup {K : PySem.W.Frag} {v : V} {ds : List D} {a : Addr} (hv : v = .ref a) : ItOk K T [(v, .tuple ds)] [] ds (Itt K a) := fun S H t l k _ => by
  obtain ⟨a', xs, e, hl, rr⟩ := (k (v, .tuple ds) (by simp)).tuple
  rw [hv] at e
  cases e
  refine ⟨fun i hi => ⟨xs, .of hl, by rw [rr.length]; exact hi⟩, fun i d hd => ?_⟩
  obtain ⟨x, hx, rx⟩ := rr.get hd
  exact ⟨⟨xs, x, .of hl, hx⟩, fun y H' ⟨e1, e2⟩ => by
    subst e1
    have := e2 xs (.of hl)
    rw [hx] at this
    cases this
    exact ⟨Nxt.refl t, rx⟩⟩
theorem seqI_some {f : E} {r : Env} {ds : List D} (h : seqI f r = some ds) : f r = some (.list ds) ∨ f r = some (.tuple ds) := by
  simp only [seqI, Option.bind_eq_bind, Option.bind_eq_some_iff] at h
  obtain ⟨d, h1, h2⟩ := h
  unfold seqD at h2
  split at h2
  · cases h2; exact .inl h1
  · cases h2; exact .inr h1
  · cases h2
theorem i_seq {q : Bool} {tg : Expr} (ha : DQ X T q e f) : DI X T q tg e (seqI f) := ⟨PI.imp (PI.or (pi_list ha.pe) (pi_tup ha.pe)) fun σ H R ⟨S, r, ds, o, ef, k⟩ => by
  rcases seqI_some ef with e1 | e1
  · refine .inl ⟨S, r, _, o, e1, fun v H' n rp => ?_⟩
    obtain ⟨a, xs, rfl, hl, rr⟩ := rp.look.list
    exact ⟨a, rfl, ⟨xs, hl⟩, k (Itl X.K a) H' [(.ref a, .list ds)] [] n (fun x hx => by simp at hx; subst hx; exact rp) Fx.nil (it_list rfl)⟩
  · refine .inr ⟨S, r, _, o, e1, fun v H' n rp => ?_⟩
    obtain ⟨a, xs, rfl, hl, rr⟩ := rp.look.tuple
    exact ⟨a, rfl, ⟨xs, .of hl⟩, k (Itt X.K a) H' [(.ref a, .tuple ds)] [] n (fun x hx => by simp at hx; subst hx; exact rp) Fx.nil (it_tup rfl)⟩⟩
theorem it_range {K : PySem.W.Frag} (lo hi : Int) : ItOk K T [] [] (rangeL lo hi) (Itr lo (hi - lo).toNat) := fun S H t l k _ => by
  have hl : (rangeL lo hi).length = (hi - lo).toNat := by simp [rangeL]
  refine ⟨fun i hi' => by rw [hl] at hi'; exact hi', fun i d hd => ?_⟩
  obtain ⟨h1, h2⟩ := List.getElem?_eq_some_iff.mp hd
  rw [hl] at h1
  refine ⟨h1, fun x H' ⟨e1, e2⟩ => ?_⟩
  subst e1 e2
  refine ⟨Nxt.refl t, ?_⟩
  have : d = .int (lo + (i : Int)) := by
    rw [← h2]
    simp [rangeL]
  rw [this]
  exact .int _
theorem rgI_some {f g : E} {r : Env} {ds : List D} (h : rgI f g r = some ds) : ∃ a b, f r = some (.int a) ∧ g r = some (.int b) ∧ big62 a = true ∧ big62 b = true ∧ ds = rangeL a b := by
  simp only [rgI, Option.bind_eq_bind, Option.bind_eq_some_iff] at h
  obtain ⟨x, h1, y, h2, h3⟩ := h
  split at h3
  · split at h3
    · rename_i a b hb
      cases h3
      obtain ⟨q1, q2⟩ := Bool.and_eq_true_iff.mp hb
      exact ⟨a, b, h1, h2, q1, q2, rfl⟩
    · cases h3
  · cases h3
theorem big_ok {a : Int} (h : big62 a = true) : -(2 ^ 62) ≤ a ∧ a < 2 ^ 62 := of_decide_eq_true h
theorem i_range1 {tg : Expr} {q : Bool} (hm : X.mg "range" = none) (ha : DE X T a f) (hg : Gl X "range" := by rfl) (hs : starEach [a] X.env = [(false, eval a X.env)] := by rfl) : DI X T q tg (.Call (.Name "range" p) [a] [] pos) (rgI (kE (.int 0)) f) :=
  ⟨PI.imp (pi_range1 hg hm (a_cons ha a_nil hs).pa hs) fun σ H R ⟨S, r, ds, o, ef, k⟩ => by
    obtain ⟨i, j, e1, e2, b1, b2, rfl⟩ := rgI_some ef
    cases e1
    refine ⟨S, r, [.int j], o, by simp [argsE, e2], fun vs H' n rp => ?_⟩
    cases rp with
    | cons ra rb =>
      cases ra
      cases rb
      obtain ⟨h1, h2⟩ := big_ok b2
      refine ⟨j, rfl, h1, h2, k (Itr 0 j.toNat) H' [] [] n (fun x hx => by simp at hx) Fx.nil ?_⟩
      have := it_range (K := X.K) (T := T) 0 j
      rw [Int.sub_zero] at this
      exact this⟩
theorem i_range2 {tg : Expr} {q : Bool} (hm : X.mg "range" = none) (ha : DE X T a f) (hb : DE X T b g) (hg : Gl X "range" := by rfl) (hs : starEach [a, b] X.env = [(false, eval a X.env), (false, eval b X.env)] := by rfl) (hs2 : starEach [b] X.env = [(false, eval b X.env)] := by rfl) :
    DI X T q tg (.Call (.Name "range" p) [a, b] [] pos) (rgI f g) :=
  ⟨PI.imp (pi_range2 hg hm (a_cons ha (a_cons hb a_nil hs2) (by rw [hs, hs2])).pa hs hs2) fun σ H R ⟨S, r, ds, o, ef, k⟩ => by
    obtain ⟨i, j, e1, e2, b1, b2, rfl⟩ := rgI_some ef
    refine ⟨S, r, [.int i, .int j], o, by simp [argsE, e1, e2], fun vs H' n rp => ?_⟩
    cases rp with
    | cons ra rb =>
      cases ra
      cases rb with
      | cons ra rb =>
        cases ra
        cases rb
        obtain ⟨h1, h2⟩ := big_ok b1
        obtain ⟨h3, h4⟩ := big_ok b2
        exact ⟨i, j, rfl, ⟨h1, h2, h3, h4⟩, k _ H' [] [] n (fun x hx => by simp at hx) Fx.nil (it_range i j)⟩⟩

/-! ### list comprehensions -/
/-- a clause's tests -/
structure DTs (X : Cx) (T : List Addr) (ifs : List Expr) (f : Dm.T) : Prop where
  pt : PTs X ifs (tDT X.K T f)
theorem PTs.imp {ifs : List Expr} {t u : TT} (h : PTs X ifs t) (i : ∀ σ H Q, u σ H Q → t σ H Q) : PTs X ifs u := ⟨fun pins s σ H Q I q => h.run pins s σ H Q I (i σ H Q q)⟩
theorem ts_nil : DTs X T [] noT := ⟨PTs.imp pts_nil fun σ H Q ⟨S, r, b, o, ef, q⟩ => by cases ef; exact q H (Nxt.refl o.tabs)⟩
theorem ts_one {t : Dm.T} (h : DT X T a t) : DTs X T [a] t := ⟨pts_one h.pt⟩
theorem compL_cons {r : Env} {tg : Tg} {ts : Dm.T} {el : E} {x : D} {xs ys : List D} (h : compL r tg ts el (x :: xs) = some ys) :
    ∃ r1 k, asg tg x r = some r1 ∧ ts r1 = some k ∧ if k = true then ∃ y ys', el r1 = some y ∧ compL r tg ts el xs = some ys' ∧ ys = y :: ys' else compL r tg ts el xs = some ys := by
  simp only [compL, Option.bind_eq_bind, Option.bind_eq_some_iff] at h
  obtain ⟨r1, h1, k, h2, h3⟩ := h
  refine ⟨r1, k, h1, h2, ?_⟩
  cases k with
  | true =>
    simp only [if_true, Option.bind_eq_some_iff] at h3 ⊢
    obtain ⟨y, h4, ys', h5, h6⟩ := h3
    exact ⟨y, ys', h4, h5, (Option.some.inj h6).symm⟩
  | false => simpa using h3
theorem Live.cons {S : List Addr} {H : Hp} {p : Addr} {o : HO} (l : Live S H) (h : H p = some o) (n : NT o) : Live (p :: S) H := fun a ha => by
  rcases List.mem_cons.mp ha with rfl | ha
  · exact ⟨o, h, n⟩
  · exact l a ha
theorem mns_upd {S : List Addr} {H : Hp} {p : Addr} {o : HO} : mns (p :: S) (upd H p o) = mns (p :: S) H := by
  funext a
  by_cases h : a ∈ p :: S
  · rw [mns_none h, mns_none h]
  · rw [mns_of h, mns_of h]
    exact upd_ne fun z => h (by rw [z]; exact List.mem_cons_self)
/-- the def's own at another address is as it was -/
theorem Own.other {K : PySem.W.Frag} {S : List Addr} {H : Hp} {p q : Addr} {o : HO} {d : D} (h : Own K (p :: S) H q d) (hne : q ≠ p) : Own K (p :: S) (upd H p o) q d := by
  cases h with
  | lst e r => exact .lst ((upd_ne hne).trans e) (by rw [mns_upd]; exact r)
  | dk e r => exact .dk ((upd_ne hne).trans e) (by rw [mns_upd]; exact r)
  | dt e r => exact .dt ((upd_ne hne).trans e) (by rw [mns_upd]; exact r)
/-- names do not lean on a new list -/
theorem EnvOk.more {K : PySem.W.Frag} {S : List Addr} {H H' : Hp} {σ : L2.St} {r : Env} {p : Addr} {o : HO} (e : EnvOk K T S H σ r) (hp : H p = none) (n : Nxt T H H') (h : H' p = some o) (nt : NT o) : EnvOk K T (p :: S) H' σ r := by
  refine ⟨n.tabs, (e.live.ext n.ext).cons h nt, e.len, fun i v sl a b => ?_, e.inj⟩
  have l := le_new e.live hp n.le
  have q := e.slot i v sl a b
  cases sl with
  | no => exact q
  | va d => obtain ⟨x, h1, h2⟩ := q; exact ⟨x, h1, h2.le l⟩
  | ow d =>
    obtain ⟨p', h1, h2, h3⟩ := q
    refine ⟨p', h1, List.mem_cons_of_mem _ h2, ?_⟩
    cases h3 with
    | lst e1 r1 => exact .lst (n.ext _ _ e1 fun _ z => by cases z) (r1.le l)
    | dk e1 r1 => exact .dk (n.ext _ _ e1 fun _ z => by cases z) (r1.le l)
    | dt e1 r1 => exact .dt (n.ext _ _ e1 fun _ z => by cases z) (r1.le l)
/-- nor on how it grows -/
theorem EnvOk.grown {K : PySem.W.Frag} {S : List Addr} {H : Hp} {σ : L2.St} {r : Env} {p : Addr} {o u : HO} (e : EnvOk K T (p :: S) H σ r) (h : H p = some u) (nu : NT u) (nt : NT o) (own : ∀ (i : Nat) d, r[i]? = some (.ow d) → σ[i]? ≠ some (some (.ref p))) : EnvOk K T (p :: S) (upd H p o) σ r := by
  have keep : ∀ b, b ≠ p → upd H p o b = H b := fun b hb => upd_ne hb
  refine ⟨fun P hP => ?_, fun a ha => ?_, e.len, fun i v sl a b => ?_, e.inj⟩
  · obtain ⟨ps, e1, e2⟩ := e.tabs P hP
    refine ⟨ps, ?_, e2⟩
    rw [keep P fun z => by subst z; rw [h] at e1; cases e1; exact nu.tbl _ rfl]
    exact e1
  · by_cases hb : a = p
    · subst hb; exact ⟨o, upd_same, nt⟩
    · obtain ⟨o', h1, h2⟩ := e.live a ha
      exact ⟨o', (keep a hb).trans h1, h2⟩
  · have q := e.slot i v sl a b
    cases sl with
    | no => exact q
    | va d => obtain ⟨x, h1, h2⟩ := q; exact ⟨x, h1, by rw [mns_upd]; exact h2⟩
    | ow d =>
      obtain ⟨p', h1, h2, h3⟩ := q
      have hne : p' ≠ p := fun z => by subst z h1; exact own i d b a
      exact ⟨p', h1, h2, h3.other hne⟩
end
end Dm
end

section
set_option Elab.async false
set_option linter.all false
set_option autoImplicit true
set_option maxRecDepth 100000
set_option maxHeartbeats 1000000
/-! DComp: list comprehensions. -/
namespace Dm
open PySem PySem.Spec PyProof.Rows L2
section
variable {X : Cx} {T : List Addr} {e a b c : Expr} {es rest : List Expr} {f g h : E} {fs : List E} {pos p : Pos}
theorem Own.more {K : PySem.W.Frag} {S : List Addr} {H H' : Hp} {p q : Addr} {d : D} (o : Own K S H q d) (lv : Live S H) (hp : H p = none) (n : Nxt T H H') : Own K (p :: S) H' q d := by
  have l := le_new lv hp n.le
  cases o with
  | lst e1 r1 => exact .lst (n.ext _ _ e1 fun _ z => by cases z) (r1.le l)
  | dk e1 r1 => exact .dk (n.ext _ _ e1 fun _ z => by cases z) (r1.le l)
  | dt e1 r1 => exact .dt (n.ext _ _ e1 fun _ z => by cases z) (r1.le l)
theorem RpQ.more {K : PySem.W.Frag} {k : Bool} {S : List Addr} {H H' : Hp} {p : Addr} {v : V} {d : D} (o : RpQ K k S H v d) (lv : Live S H) (hp : H p = none) (n : Nxt T H H') : RpQ K k (p :: S) H' v d := by
  have l := le_new lv hp n.le
  cases k with
  | false => exact Rp.le l o
  | true =>
    rcases o with o | ⟨q, e, o⟩
    · exact .inl (Rp.le l o)
    · exact .inr ⟨q, e, o.more lv hp n⟩
/-- a new list grows -/
theorem Nxt.grow {H H' : Hp} {p : Addr} {o u : HO} (n : Nxt T H H') (hp : H p = none) (h : H' p = some u) (nu : NT u) : Nxt T H (upd H' p o) := by
  refine ⟨fun b x e nt => ?_, fun P hP => ?_, fun b ps e => ?_⟩
  · rw [upd_ne (ne_of_none e hp)]; exact n.ext b x e nt
  · obtain ⟨ps, e1, e2⟩ := n.tabs P hP
    exact ⟨ps, by rw [upd_ne fun z => by subst z; rw [h] at e1; cases e1; exact nu.tbl _ rfl]; exact e1, e2⟩
  · obtain ⟨ps', e'⟩ := n.tbl b ps e
    exact ⟨ps', by rw [upd_ne (ne_of_none e hp)]; exact e'⟩
theorem compL_len {r : Env} {tg : Tg} {ts : Dm.T} {el : E} : ∀ {ds ys : List D}, compL r tg ts el ds = some ys → ys.length ≤ ds.length
  | [], ys, h => by simp [compL] at h; subst h; simp
  | x :: xs, ys, h => by
    obtain ⟨r1, k, h1, h2, h3⟩ := compL_cons h
    cases k with
    | true =>
      obtain ⟨y, ys', h4, h5, rfl⟩ := by simpa using h3
      have := compL_len h5
      simp only [List.length_cons]; omega
    | false =>
      have := compL_len (by simpa using h3)
      simp only [List.length_cons]; omega
/-- the reading of a list comprehension -/
theorem lc_read {K : PySem.W.Frag} {q : Bool} {it : I} {t : Tg} {ts : Dm.T} {el : E} {own : List Nat} (hw : ∀ j ∈ t.slots, j ∈ own) {σ : L2.St} {H : Hp} {Q : VK} {S : List Addr} {r : Env} {d : D} (o : EnvOk K T S H σ r) (ef : lstI (compI own it t ts el) r = some d)
    (k : ∀ p H', H p = none → Nxt T H H' → Own K (p :: S) H' p d → Q (.ref p) H') : tLc (tDI K T q it) (tDG K T t) (tDT K T ts) (tDE K T el) own σ H Q := by
  simp only [lstI, compI, Option.bind_eq_bind, Option.bind_eq_some_iff] at ef
  obtain ⟨ys, ⟨ds, e1, zs, e2, e3⟩, e4⟩ := ef
  unfold fitL at e3
  split at e3
  · rename_i hz
    have e3 := Option.some.inj e3
    subst e3
    cases e4
    have hz := lenOk_le hz
    refine ⟨S, r, ds, o, e1, fun J H1 kp fx n1 hk hfx hit D hD => ?_⟩
    have lv1 : Live S H1 := o.live.ext n1.ext
    have hD0 : H D = none := n1.free hD
    let W : Nat → Nat → Hp → Prop := fun i m Hc => ∃ acc pre post, i + m = ds.length ∧ Hc D = some (.lst acc) ∧ RpAll K (mns (D :: S) Hc) acc pre ∧ compL (wipeE r own) t ts el (ds.drop i) = some post ∧ zs = pre ++ post ∧ Nxt T H1 Hc
    refine ⟨W, ⟨ds.length, [], [], zs, by omega, upd_same, .nil, by simpa using e2, rfl, nxt_new n1.tabs hD⟩, ?_⟩
    rintro i m Hc ⟨acc, pre, post, him, hc, ra, ec, ez, nc⟩
    have eo : EnvOk K T (D :: S) Hc σ r := (o.nxt n1).more hD nc hc (NT.lst acc)
    have ew := eo.wipe own
    have kc : ∀ x ∈ kp, RpB K (D :: S) Hc x.1 x.2 := fun x hx => ((hk x hx).more lv1 hD nc).look
    obtain ⟨st, go⟩ := hit (D :: S) Hc eo.tabs eo.live kc (hfx.more hD nc)
    by_cases hi : ds.length ≤ i
    · refine .inl ⟨st i hi, ?_⟩
      rw [List.drop_eq_nil_of_le hi] at ec
      simp only [compL, Option.some.injEq] at ec
      subst ec
      rw [List.append_nil] at ez
      subst ez
      exact k D Hc hD0 (n1.trans nc) (.lst hc ra)
    · have hi' : i < ds.length := Nat.lt_of_not_le hi
      have hx : ds[i]? = some ds[i] := List.getElem?_eq_getElem hi'
      obtain ⟨g1, g2⟩ := go i _ hx
      rw [List.drop_eq_getElem_cons hi'] at ec
      obtain ⟨r1, b, f1, f2, f3⟩ := compL_cons ec
      refine .inr ⟨g1, fun H' => W (i + 1) (m - 1) H', fun H' w' => ⟨m - 1, by omega, w'⟩, fun x H2 y => ?_⟩
      obtain ⟨n2, rx⟩ := g2 x H2 y
      refine ⟨D :: S, _, _, r1, ew.nxt n2, rx, f1, fun σ' o' u' => ⟨u'.wipe hw, D :: S, r1, b, o', f2, fun H3 n3 => ?_⟩⟩
      have hc3 : H3 D = some (.lst acc) := n3.ext _ _ (n2.ext _ _ hc fun _ z => by cases z) fun _ z => by cases z
      cases b with
      | false =>
        rw [if_neg Bool.false_ne_true] at f3
        show W (i + 1) (m - 1) H3
        exact ⟨acc, pre, post, by omega, hc3, ra.le (le_mns (n2.trans n3).le), f3, ez, nc.trans (n2.trans n3)⟩
      | true =>
        rw [if_pos rfl] at f3
        show tDE K T el σ' H3 _
        obtain ⟨y', ys', g3, g4, rfl⟩ := f3
        refine ⟨D :: S, r1, y', o'.nxt n3, g3, fun v H4 n4 rv => ?_⟩
        have hc4 : H4 D = some (.lst acc) := n4.ext _ _ hc3 fun _ z => by cases z
        refine ⟨acc, hc4, ?_, acc ++ [v], pre ++ [y'], ys', by omega, upd_same, ?_, g4, by rw [ez]; simp, ?_⟩
        · have h1 := ra.length
          have h2 : zs.length = pre.length + (ys'.length + 1) := by rw [ez]; simp
          omega
        · rw [mns_upd]
          exact (ra.le (le_mns ((n2.trans n3).trans n4).le)).append (.cons rv .nil)
        · exact (nc.trans ((n2.trans n3).trans n4)).grow hD hc4 (NT.lst _)
  · cases e3
theorem f_lc {elt tg iter : Expr} {ifs : List Expr} {scope : Scope} {own : List (Str × Nat)} {q : Bool} {it : I} {t : Tg} {ts : Dm.T} {el : E} (hc : X.calm = true) (hN : X.N.Nodup) (hi : DI X T q tg iter it) (ok : BlkOk X.N X.env.scope scope own)
    (hg : ∀ (s : Shared) (H : Hp) (C : Addr) (cl : List (Str × Addr)) (fp : List Addr), DG (X.blk s H scope (compEnvC scope cl C X.env) fp) T tg t) (ht : ∀ (s : Shared) (H : Hp) (C : Addr) (cl : List (Str × Addr)) (fp : List Addr), DTs (X.blk s H scope (compEnvC scope cl C X.env) fp) T ifs ts)
    (he : ∀ (s : Shared) (H : Hp) (C : Addr) (cl : List (Str × Addr)) (fp : List Addr), DE (X.blk s H scope (compEnvC scope cl C X.env) fp) T elt el) (hw : ∀ j ∈ t.slots, j ∈ own.map (·.2) := by decide) (hs : ∀ x, foldedSetIterable iter X.env x = pure x := by intro _; rfl) :
    DF X T (.ListComp elt [⟨tg, iter, ifs, 0⟩] scope pos) (lstI (compI (own.map (·.2)) it t ts el)) :=
  ⟨PE.imp (pe_lc hc hN hi.pi ok (fun s H C cl fp => (hg s H C cl fp).pg) (fun s H C cl fp => (ht s H C cl fp).pt) (fun s H C cl fp => (he s H C cl fp).pe) hs) fun σ H Q ⟨S, r, d, o, ef, k⟩ => lc_read hw o ef k⟩
end
end Dm
end

section
set_option Elab.async false
set_option linter.all false
set_option autoImplicit true
set_option maxRecDepth 100000
set_option maxHeartbeats 1000000
/-! DStmt: statements. -/
namespace Dm
open PySem PySem.Spec PyProof.Rows L2

/-! ### what a statement leaves -/
structure Aft (T O S : List Addr) (H : Hp) (S' : List Addr) (H' : Hp) : Prop where
  le : Le (mns S H) (mns S' H')
  new : ∀ a ∈ S', a ∈ S ∨ H a = none
  ext : ∀ b o, H b = some o → (b ∈ O ∨ b ∉ S) → (∀ ps, o ≠ .tbl ps) → H' b = some o
  tbl : ∀ b ps, H b = some (.tbl ps) → ∃ ps', H' b = some (.tbl ps')
  tabs : Tabs T H'
  ex : ∀ b, H' b = none → H b = none
section
variable {T O S S1 S2 : List Addr} {H H1 H2 : Hp}
theorem Aft.refl (t : Tabs T H) : Aft T O S H S H := ⟨Le.refl _, fun a h => .inl h, fun _ _ e _ _ => e, fun _ ps e => ⟨ps, e⟩, t, fun _ e => e⟩
theorem Aft.trans (a : Aft T O S H S1 H1) (b : Aft T O S1 H1 S2 H2) : Aft T O S H S2 H2 := by
  refine ⟨a.le.trans b.le, fun c h => ?_, fun c o e h nt => ?_, fun c ps e => ?_, b.tabs, fun c e => a.ex c (b.ex c e)⟩
  · rcases b.new c h with h | h
    · exact a.new c h
    · exact .inr (a.ex c h)
  · refine b.ext c o (a.ext c o e h nt) ?_ nt
    rcases h with h | h
    · exact .inl h
    · refine .inr fun z => ?_
      rcases a.new c z with z | z
      · exact h z
      · rw [e] at z; cases z
  · obtain ⟨ps', e'⟩ := a.tbl c ps e
    exact b.tbl c ps' e'
theorem Nxt.aft (n : Nxt T H H1) : Aft T O S H S H1 := ⟨le_mns n.le, fun a h => .inl h, fun b o e _ nt => n.ext b o e nt, n.tbl, n.tabs, fun _ e => n.free e⟩
/-- a new own one -/
theorem Nxt.aftNew {p : Addr} (n : Nxt T H H1) (l : Live S H) (hp : H p = none) : Aft T O S H (p :: S) H1 := ⟨le_new l hp n.le, fun a h => by
  rcases List.mem_cons.mp h with rfl | h
  · exact .inr hp
  · exact .inl h, fun b o e _ nt => n.ext b o e nt, n.tbl, n.tabs, fun _ e => n.free e⟩
/-- an own one is written -/
theorem aft_upd {p : Addr} {u o : HO} (t : Tabs T H) (hp : p ∈ S) (hO : p ∉ O) (h : H p = some u) (nu : NT u) : Aft T O S H S (upd H p o) := by
  have hne : ∀ b, b ≠ p → upd H p o b = H b := fun b hb => upd_ne hb
  refine ⟨?_, fun a h => .inl h, fun b x e hb nt => ?_, fun b ps e => ?_, fun P hP => ?_, fun b e => ?_⟩
  · have : mns S (upd H p o) = mns S H := by
      funext a
      by_cases ha : a ∈ S
      · rw [mns_none ha, mns_none ha]
      · rw [mns_of ha, mns_of ha]; exact hne a fun z => ha (by rw [z]; exact hp)
    rw [this]; exact Le.refl _
  · rw [hne b]; exact e
    rintro rfl
    rcases hb with hb | hb
    · exact hO hb
    · exact hb hp
  · refine ⟨ps, ?_⟩
    rw [hne b]; exact e
    rintro rfl
    rw [h] at e; cases e; exact nu.tbl _ rfl
  · obtain ⟨ps, e1, e2⟩ := t P hP
    refine ⟨ps, ?_, e2⟩
    rw [hne P]; exact e1
    rintro rfl
    rw [h] at e1; cases e1; exact nu.tbl _ rfl
  · by_cases hb : b = p
    · subst hb; rw [upd_same] at e; cases e
    · rw [hne b hb] at e; exact e
/-- an own one is given up -/
theorem aft_sub (t : Tabs T H) (h : ∀ a ∈ S1, a ∈ S) : Aft T O S H S1 H := ⟨le_sub h, fun a m => .inl (h a m), fun _ _ e _ _ => e, fun _ ps e => ⟨ps, e⟩, t, fun _ e => e⟩
theorem Fx.aft {fx : Fxs} (f : Fx fx S H) (a : Aft T O S H S1 H1) : Fx fx S1 H1 := fun q h => by
  obtain ⟨h1, h2, h3⟩ := f q h
  refine ⟨a.ext _ _ h1 (.inr h2) h3, fun z => ?_, h3⟩
  rcases a.new _ z with z | z
  · exact h2 z
  · rw [h1] at z; cases z
/-- at the end of a def -/
theorem Aft.nxt (a : Aft T O O H S1 H1) : Nxt T H H1 := ⟨fun b o e nt => a.ext b o e (Classical.em _) nt, a.tabs, a.tbl⟩
end
structure SOk (K : PySem.W.Frag) (T O S : List Addr) (H : Hp) (σ : L2.St) (r : Env) : Prop where
  env : EnvOk K T S H σ r
  sub : ∀ a ∈ O, a ∈ S
  own : ∀ (i : Nat) (d : D) (p : Addr), r[i]? = some (.ow d) → σ[i]? = some (some (.ref p)) → p ∉ O
def Post (K : PySem.W.Frag) (T O S : List Addr) (H : Hp) (Z : Ends) : Res → Prop
  | .nx r => ∀ S' σ' H', SOk K T O S' H' σ' r → Aft T O S H S' H' → Z.nx σ' H'
  | .bk r => ∀ S' σ' H', SOk K T O S' H' σ' r → Aft T O S H S' H' → Z.bk σ' H'
  | .ct r => ∀ S' σ' H', SOk K T O S' H' σ' r → Aft T O S H S' H' → Z.ct σ' H'
  | .rt d => ∀ v S' H', Aft T O S H S' H' → Rp K (mns O H') v d → Z.rt v H'
theorem Post.after {K : PySem.W.Frag} {T O S S1 : List Addr} {H H1 : Hp} {Z : Ends} {x : Res} (p : Post K T O S H Z x) (a : Aft T O S H S1 H1) : Post K T O S1 H1 Z x := by
  cases x with
  | nx r => exact fun S' σ' H' o b => p S' σ' H' o (a.trans b)
  | bk r => exact fun S' σ' H' o b => p S' σ' H' o (a.trans b)
  | ct r => exact fun S' σ' H' o b => p S' σ' H' o (a.trans b)
  | rt d => exact fun v S' H' b rp => p v S' H' (a.trans b) rp
def tDS (K : PySem.W.Frag) (T : List Addr) (f : Dm.S) : TS := fun Z σ H => ∃ O S r x, SOk K T O S H σ r ∧ f r = some x ∧ Post K T O S H Z x
structure DS (X : Cx) (T : List Addr) (st : Stmt) (f : Dm.S) : Prop where
  ps : PS X st (tDS X.K T f)
structure DSs (X : Cx) (T : List Addr) (sts : List Stmt) (f : Dm.S) : Prop where
  ps : PSs X sts (tDS X.K T f)
section
variable {X : Cx} {T : List Addr} {e a b c : Expr} {es rest : List Expr} {f g h : E} {fs : List E} {pos p : Pos} {st : Stmt} {sts : List Stmt} {F G : Dm.S} {Fs : List Dm.S}
theorem SOk.nxt {K : PySem.W.Frag} {O S : List Addr} {H H' : Hp} {σ : L2.St} {r : Env} (o : SOk K T O S H σ r) (n : Nxt T H H') : SOk K T O S H' σ r := ⟨o.env.nxt n, o.sub, o.own⟩
theorem ss_nil : DSs X T [] (blk []) := ⟨PSs.imp pss_nil fun Z σ H ⟨O, S, r, x, o, ef, q⟩ => by
  cases ef
  exact q S σ H o (Aft.refl o.env.tabs)⟩
theorem ss_cons (h1 : DS X T st F) (h2 : DSs X T sts (blk Fs)) : DSs X T (st :: sts) (blk (F :: Fs)) := ⟨PSs.imp (pss_cons h1.ps h2.ps) fun Z σ H ⟨O, S, r, x, o, ef, q⟩ => by
  simp only [blk, Option.bind_eq_bind, Option.bind_eq_some_iff] at ef
  obtain ⟨y, e1, e2⟩ := ef
  refine ⟨O, S, r, y, o, e1, ?_⟩
  cases y with
  | nx r1 => exact fun S' σ' H' o' a' => ⟨O, S', r1, x, o', e2, q.after a'⟩
  | bk r1 => cases e2; exact q
  | ct r1 => cases e2; exact q
  | rt d => cases e2; exact q⟩
theorem s_pass : DS X T (.Pass pos) sPass := ⟨PS.imp ps_pass fun Z σ H ⟨O, S, r, x, o, ef, q⟩ => by cases ef; exact q S σ H o (Aft.refl o.env.tabs)⟩
theorem s_brk : DS X T (.Break pos) sBrk := ⟨PS.imp ps_break fun Z σ H ⟨O, S, r, x, o, ef, q⟩ => by cases ef; exact q S σ H o (Aft.refl o.env.tabs)⟩
theorem s_cnt : DS X T (.Continue pos) sCnt := ⟨PS.imp ps_continue fun Z σ H ⟨O, S, r, x, o, ef, q⟩ => by cases ef; exact q S σ H o (Aft.refl o.env.tabs)⟩
theorem s_if {t : Dm.T} {ss ts : List Stmt} (hc : DT X T c t) (ha : DSs X T ss F) (hb : DSs X T ts G) : DS X T (.If c ss ts pos) (sIf t F G) := ⟨PS.imp (ps_if hc.pt ha.ps hb.ps) fun Z σ H ⟨O, S, r, x, o, ef, q⟩ => by
  simp only [sIf, Option.bind_eq_bind, Option.bind_eq_some_iff] at ef
  obtain ⟨k, e1, e2⟩ := ef
  refine ⟨S, r, k, o.env, e1, fun H1 n1 => ?_⟩
  cases k with
  | true => exact ⟨O, S, r, x, o.nxt n1, by simpa using e2, q.after n1.aft⟩
  | false => exact ⟨O, S, r, x, o.nxt n1, by simpa using e2, q.after n1.aft⟩⟩
theorem s_ret (ha : DE X T a f) : DS X T (.Return (some a) pos) (sRet f) := ⟨PS.imp (ps_ret ha.pe) fun Z σ H ⟨O, S, r, x, o, ef, q⟩ => by
  simp only [sRet, Option.bind_eq_bind, Option.bind_eq_some_iff] at ef
  obtain ⟨d, e1, e2⟩ := ef
  cases e2
  exact ⟨S, r, d, o.env, e1, fun v H1 n1 rp => q v S H1 n1.aft (Rp.le (le_sub o.sub) rp)⟩⟩
/-- the own list of a name -/
theorem s_retO (i : Nat) {x : Str} (hN : X.N[i]? = some x := by rfl) (hv : Vis X.env.scope x := by first | exact Or.inl rfl | exact Or.inr (Or.inl rfl) | exact Or.inr (Or.inr rfl)) (hd : (x == ("__debug__" : Str)) = false := by decide)
    (hcd : (x == ("__classdict__" : Str)) = false := by decide) : DS X T (.Return (some (.Name x p)) pos) (sRet (bE i)) := ⟨PS.imp (ps_ret (pe_var hN hv hd hcd)) fun Z σ H ⟨O, S, r, y, o, ef, q⟩ => by
  simp only [sRet, Option.bind_eq_bind, Option.bind_eq_some_iff] at ef
  obtain ⟨d, e1, e2⟩ := ef
  cases e2
  unfold bE at e1
  split at e1
  · rename_i d' hd'
    cases e1
    obtain ⟨v, e1, x, e2, rp⟩ := o.env.at hd'
    subst e2
    exact ⟨x, e1, q x S H (Aft.refl o.env.tabs) (Rp.le (le_sub o.sub) rp)⟩
  · rename_i d' hd'
    cases e1
    obtain ⟨v, e1, p', e2, hp, ow⟩ := o.env.at hd'
    subst e2
    exact ⟨_, e1, q _ S H (Aft.refl o.env.tabs) (ow.rp (o.own i _ _ hd' e1) o.sub)⟩
  · cases e1⟩
theorem s_retN : DS X T (.Return none pos) (sRet (kE .none)) := ⟨PS.imp ps_retN fun Z σ H ⟨O, S, r, x, o, ef, q⟩ => by
  cases ef
  exact q .non S H (Aft.refl o.env.tabs) .non⟩
theorem s_expr (ha : DE X T a f) (hs : swapsWith a none pos.line X.env = pure false := by rfl) : DS X T (.Expr a pos) (sExpr f) := ⟨PS.imp (ps_expr ha.pe hs) fun Z σ H ⟨O, S, r, x, o, ef, q⟩ => by
  simp only [sExpr, Option.bind_eq_bind, Option.bind_eq_some_iff] at ef
  obtain ⟨d, e1, e2⟩ := ef
  cases e2
  exact ⟨S, r, d, o.env, e1, fun v H1 n1 rp => q S σ H1 (o.nxt n1) n1.aft⟩⟩
mutual
theorem asg_ow : ∀ (t : Tg) {d : D} {r r' : Env} {i : Nat} {x : D}, asg t d r = some r' → r'[i]? = some (.ow x) → r[i]? = some (.ow x) ∧ i ∉ t.slots
  | .nm j, d, r, r', i, x, h, e => by
    simp only [asg, Option.some.injEq] at h
    subst h
    have hne : j ≠ i := fun z => by
      subst z
      obtain ⟨h1, h2⟩ := List.getElem?_eq_some_iff.mp e
      rw [List.getElem_set_self] at h2; cases h2
    rw [List.getElem?_set_ne hne] at e
    exact ⟨e, by simp [Tg.slots]; exact fun z => hne z.symm⟩
  | .tp ts, d, r, r', i, x, h, e => by
    unfold asg at h
    split at h
    · split at h
      · exact asgs_own ts h e
      · cases h
    · cases h
theorem asgs_own : ∀ (ts : List Tg) {ds : List D} {r r' : Env} {i : Nat} {x : D}, asgs ts ds r = some r' → r'[i]? = some (.ow x) → r[i]? = some (.ow x) ∧ i ∉ Tg.slotsAll ts
  | [], ds, r, r', i, x, h, e => by
    simp only [asgs, Option.some.injEq] at h
    subst h
    exact ⟨e, by simp [Tg.slotsAll]⟩
  | t :: ts, [], r, r', i, x, h, e => by cases h
  | t :: ts, d :: ds, r, r', i, x, h, e => by
    simp only [asgs, Option.bind_eq_bind, Option.bind_eq_some_iff] at h
    obtain ⟨r1, h1, h2⟩ := h
    obtain ⟨e1, n1⟩ := asgs_own ts h2 e
    obtain ⟨e2, n2⟩ := asg_ow t h1 e1
    exact ⟨e2, by simp [Tg.slotsAll]; exact ⟨n2, n1⟩⟩
end
theorem SOk.asg {K : PySem.W.Frag} {O S : List Addr} {H H' : Hp} {σ σ' : L2.St} {r r' : Env} {t : Tg} {d : D} (o : SOk K T O S H σ r) (h : asg t d r = some r') (e : EnvOk K T S H' σ' r') (u : Upd t.slots σ σ') : SOk K T O S H' σ' r' := ⟨e, o.sub, fun i x q h1 h2 => by
  obtain ⟨h3, h4⟩ := asg_ow t h h1
  rw [u.2 i h4] at h2
  exact o.own i x q h3 h2⟩
theorem s_asg {tg : Expr} {t : Tg} (ha : DE X T a f) (hg : DG X T tg t) (hs : swapsWithSole [tg] a pos.line X.env = pure false := by rfl) (hw : swappedStores [tg] a X.env = pure none := by rfl)
    (h1 : (assignEach [tg] X.env).map (·.2) = [assign tg X.env] := by rfl) : DS X T (.Assign [tg] a pos) (sAsg t f) := ⟨PS.imp (ps_asg ha.pe hg.pg hs hw h1) fun Z σ H ⟨O, S, r, y, o, ef, q⟩ => by
  simp only [sAsg, Option.bind_eq_bind, Option.bind_eq_some_iff] at ef
  obtain ⟨d, e1, r', e2, e3⟩ := ef
  cases e3
  exact ⟨S, r, d, o.env, e1, fun v H1 n1 rp => ⟨S, r, d, r', o.env.nxt n1, rp, e2, fun σ' o' u' => q S σ' H1 (o.asg e2 o' u') n1.aft⟩⟩⟩
/-- a name: an own one from now on -/
theorem SOk.setOw {K : PySem.W.Frag} {O S : List Addr} {H : Hp} {σ : L2.St} {r : Env} {q : Addr} {d : D} (i : Nat) (o : SOk K T O S H σ r) (hq : q ∈ S) (hO : q ∉ O) (ow : Own K S H q d) (hne : ∀ j x, j ≠ i → r[j]? = some (.ow x) → σ[j]? ≠ some (some (.ref q))) :
    SOk K T O S H (σ.set i (some (.ref q))) (r.set i (.ow d)) := by
  refine ⟨⟨o.env.tabs, o.env.live, by rw [List.length_set, List.length_set]; exact o.env.len, fun j v sl a b => ?_, fun j k p' x y a b c d' => ?_⟩, o.sub, fun j x p' a b => ?_⟩
  · by_cases hj : i = j
    · subst hj
      obtain ⟨h1, e1⟩ := List.getElem?_eq_some_iff.mp a
      obtain ⟨h2, e2⟩ := List.getElem?_eq_some_iff.mp b
      rw [List.getElem_set_self] at e1 e2
      subst e1 e2
      exact ⟨q, rfl, hq, ow⟩
    · rw [List.getElem?_set_ne hj] at a b
      exact o.env.slot j v sl a b
  · by_cases hj : i = j <;> by_cases hk : i = k
    · exact hj.symm.trans hk
    · exfalso
      subst hj
      rw [List.getElem?_set_ne hk] at b d'
      obtain ⟨h1, e1⟩ := List.getElem?_eq_some_iff.mp c
      rw [List.getElem_set_self] at e1
      cases e1
      exact hne k y (Ne.symm hk) b d'
    · exfalso
      subst hk
      rw [List.getElem?_set_ne hj] at a c
      obtain ⟨h1, e1⟩ := List.getElem?_eq_some_iff.mp d'
      rw [List.getElem_set_self] at e1
      cases e1
      exact hne j x (Ne.symm hj) a c
    · rw [List.getElem?_set_ne hj] at a c
      rw [List.getElem?_set_ne hk] at b d'
      exact o.env.inj j k p' x y a b c d'
  · by_cases hj : i = j
    · subst hj
      obtain ⟨h1, e1⟩ := List.getElem?_eq_some_iff.mp b
      rw [List.getElem_set_self] at e1
      cases e1
      exact hO
    · rw [List.getElem?_set_ne hj] at a b
      exact o.own j x p' a b
theorem SOk.more {K : PySem.W.Frag} {O S : List Addr} {H H' : Hp} {σ : L2.St} {r : Env} {q : Addr} {d : D} (o : SOk K T O S H σ r) (hp : H q = none) (n : Nxt T H H') (ow : Own K (q :: S) H' q d) : SOk K T O (q :: S) H' σ r := by
  refine ⟨?_, fun a h => List.mem_cons_of_mem _ (o.sub a h), o.own⟩
  cases ow with
  | lst e _ => exact o.env.more hp n e (NT.lst _)
  | dk e _ => exact o.env.more hp n e (NT.dK _)
  | dt e _ => exact o.env.more hp n e (NT.dT _)
theorem SOk.newOw {K : PySem.W.Frag} {O S : List Addr} {H H' : Hp} {σ : L2.St} {r : Env} {q : Addr} {d : D} (i : Nat) (o : SOk K T O S H σ r) (hp : H q = none) (n : Nxt T H H') (ow : Own K (q :: S) H' q d) : SOk K T O (q :: S) H' (σ.set i (some (.ref q))) (r.set i (.ow d)) := by
  refine (o.more hp n ow).setOw i List.mem_cons_self (fun z => o.env.live.new hp (o.sub q z)) ow fun j x _ h1 h2 => ?_
  obtain ⟨v, e1, p', e2, m, _⟩ := o.env.at h1
  rw [h2] at e1
  cases e1
  cases e2
  exact o.env.live.new hp m
/-- what a reading of a new list gives -/
def tDF' (K : PySem.W.Frag) (T : List Addr) (f : E) (t : TE) : Prop := ∀ σ H Q, tDF K T f σ H Q → t σ H Q
theorem own_of {K : PySem.W.Frag} {t : TE} {i : Nat} {Z : Ends} {σ : L2.St} {H : Hp} (ht : tDF' K T f t) (h : tDS K T (sOwn i f) Z σ H) : tAsg t (gName i) Z σ H := by
  obtain ⟨O, S, r, y, o, ef, q⟩ := h
  simp only [sOwn, Option.bind_eq_bind, Option.bind_eq_some_iff] at ef
  obtain ⟨d, e1, e2⟩ := ef
  cases e2
  refine ht _ _ _ ⟨S, r, d, o.env, e1, fun p H1 hp n1 ow => ?_⟩
  exact q (p :: S) (σ.set i (some (.ref p))) H1 (o.newOw i hp n1 ow) (n1.aftNew o.env.live hp)
theorem va_of {K : PySem.W.Frag} {t : TE} {i : Nat} {Z : Ends} {σ : L2.St} {H : Hp} (ht : tDF' K T f t) (h : tDS K T (sAsg (.nm i) f) Z σ H) : tAsg t (gName i) Z σ H := by
  obtain ⟨O, S, r, y, o, ef, q⟩ := h
  simp only [sAsg, asg, Option.bind_eq_bind, Option.bind_eq_some_iff] at ef
  obtain ⟨d, e1, r', e2, e3⟩ := ef
  cases e3
  cases e2
  refine ht _ _ _ ⟨S, r, d, o.env, e1, fun p H1 hp n1 ow => ?_⟩
  have rp := own_rp (T := T) o.env.live hp ow
  refine q S (σ.set i (some (.ref p))) H1 ?_ n1.aft
  exact (o.nxt n1).asg (t := .nm i) (d := d) rfl ((o.env.nxt n1).setVa rp) ⟨List.length_set, fun j hj => List.getElem?_set_ne fun z => hj (by simp [Tg.slots, z])⟩
/-- name = an own list from now on -/
theorem s_own (i : Nat) {x : Str} {p' : Pos} (ha : DF X T a f) (hN : X.N.Nodup) (hi : X.N[i]? = some x := by rfl) (hx : Loc X.env.scope x := by first | exact Or.inl rfl | exact Or.inr rfl) (hs : swapsWith a (some (.Name x p')) pos.line X.env = pure false := by rfl)
    (hf : X.fn x = true ∨ X.env.scope.names.lookup x = some .local := by first | exact .inl rfl | exact .inr rfl) : DS X T (.Assign [.Name x p'] a pos) (sOwn i f) := ⟨PS.imp (ps_set hN hi hx ha.pe hs hf) fun Z σ H h => own_of (fun _ _ _ z => z) h⟩
theorem s_set (i : Nat) {x : Str} {p' : Pos} (ha : DE X T a f) (hN : X.N.Nodup) (hi : X.N[i]? = some x := by rfl) (hx : Loc X.env.scope x := by first | exact Or.inl rfl | exact Or.inr rfl) (hs : swapsWith a (some (.Name x p')) pos.line X.env = pure false := by rfl)
    (hf : X.fn x = true ∨ X.env.scope.names.lookup x = some .local := by first | exact .inl rfl | exact .inr rfl) : DS X T (.Assign [.Name x p'] a pos) (sAsg (.nm i) f) := ⟨PS.imp (ps_set hN hi hx ha.pe hs hf) fun Z σ H ⟨O, S, r, y, o, ef, q⟩ => by
  simp only [sAsg, asg, Option.bind_eq_bind, Option.bind_eq_some_iff] at ef
  obtain ⟨d, e1, r', e2, e3⟩ := ef
  cases e3
  cases e2
  refine ⟨S, r, d, o.env, e1, fun v H1 n1 rp => ?_⟩
  refine q S (σ.set i (some v)) H1 ?_ n1.aft
  exact (o.nxt n1).asg (t := .nm i) (d := d) rfl ((o.env.nxt n1).setVa rp) ⟨List.length_set, fun j hj => List.getElem?_set_ne fun z => hj (by simp [Tg.slots, z])⟩⟩
section
variable {i : Nat} {y : Str} {py : Pos} {elt tg iter : Expr} {ifs : List Expr} {scope : Scope} {own : List (Str × Nat)} {q : Bool} {it : I} {t : Tg} {ts : Dm.T} {el : E} {spos : Pos}
theorem lc_df {K : PySem.W.Frag} {own : List Nat} (hw : ∀ j ∈ t.slots, j ∈ own) : tDF' K T (lstI (compI own it t ts el)) (tLc (tDI K T q it) (tDG K T t) (tDT K T ts) (tDE K T el) own) := fun σ H Q ⟨S, r, d, o, ef, k⟩ => lc_read hw o ef k
/-- name = [..] on one line -/
theorem s_ownLc (i : Nat) (hc : X.calm = true) (hN : X.N.Nodup) (hi : DI X T q tg iter it) (ok : BlkOk X.N X.env.scope scope own)
    (hg : ∀ (s : Shared) (H : Hp) (C : Addr) (cl : List (Str × Addr)) (fp : List Addr), DG (X.blk s H scope (compEnvC scope cl C X.env) fp) T tg t) (ht : ∀ (s : Shared) (H : Hp) (C : Addr) (cl : List (Str × Addr)) (fp : List Addr), DTs (X.blk s H scope (compEnvC scope cl C X.env) fp) T ifs ts)
    (he : ∀ (s : Shared) (H : Hp) (C : Addr) (cl : List (Str × Addr)) (fp : List Addr), DE (X.blk s H scope (compEnvC scope cl C X.env) fp) T elt el) (hw : ∀ j ∈ t.slots, j ∈ own.map (·.2) := by decide)
    (hy : X.N[i]? = some y := by rfl) (hyl : X.env.scope.names.lookup y = some .local := by rfl) (hsw : swapsWith (.ListComp elt [⟨tg, iter, ifs, 0⟩] scope pos) (some (.Name y py)) spos.line X.env = pure true := by exact sw_true rfl rfl rfl (by decide +kernel))
    (hs : ∀ x, foldedSetIterable iter X.env x = pure x := by intro _; rfl) :
    DS X T (.Assign [.Name y py] (.ListComp elt [⟨tg, iter, ifs, 0⟩] scope pos) spos) (sOwn i (lstI (compI (own.map (·.2)) it t ts el))) :=
  ⟨PS.imp (ps_setLc hc hN hy hyl hsw hi.pi ok (fun s H C cl fp => (hg s H C cl fp).pg) (fun s H C cl fp => (ht s H C cl fp).pt) (fun s H C cl fp => (he s H C cl fp).pe) hs) fun Z σ H h => own_of (lc_df hw) h⟩
theorem s_setLc (i : Nat) (hc : X.calm = true) (hN : X.N.Nodup) (hi : DI X T q tg iter it) (ok : BlkOk X.N X.env.scope scope own)
    (hg : ∀ (s : Shared) (H : Hp) (C : Addr) (cl : List (Str × Addr)) (fp : List Addr), DG (X.blk s H scope (compEnvC scope cl C X.env) fp) T tg t) (ht : ∀ (s : Shared) (H : Hp) (C : Addr) (cl : List (Str × Addr)) (fp : List Addr), DTs (X.blk s H scope (compEnvC scope cl C X.env) fp) T ifs ts)
    (he : ∀ (s : Shared) (H : Hp) (C : Addr) (cl : List (Str × Addr)) (fp : List Addr), DE (X.blk s H scope (compEnvC scope cl C X.env) fp) T elt el) (hw : ∀ j ∈ t.slots, j ∈ own.map (·.2) := by decide)
    (hy : X.N[i]? = some y := by rfl) (hyl : X.env.scope.names.lookup y = some .local := by rfl) (hsw : swapsWith (.ListComp elt [⟨tg, iter, ifs, 0⟩] scope pos) (some (.Name y py)) spos.line X.env = pure true := by exact sw_true rfl rfl rfl (by decide +kernel))
    (hs : ∀ x, foldedSetIterable iter X.env x = pure x := by intro _; rfl) :
    DS X T (.Assign [.Name y py] (.ListComp elt [⟨tg, iter, ifs, 0⟩] scope pos) spos) (sAsg (.nm i) (lstI (compI (own.map (·.2)) it t ts el))) :=
  ⟨PS.imp (ps_setLc hc hN hy hyl hsw hi.pi ok (fun s H C cl fp => (hg s H C cl fp).pg) (fun s H C cl fp => (ht s H C cl fp).pt) (fun s H C cl fp => (he s H C cl fp).pe) hs) fun Z σ H h => va_of (lc_df hw) h⟩
end
end
end Dm
end

section
set_option Elab.async false
set_option linter.all false
set_option autoImplicit true
set_option maxRecDepth 100000
set_option maxHeartbeats 1000000
/-! DStmt2: loops; own lists and dicts that are written; defs. -/
namespace Dm
open PySem PySem.Spec PyProof.Rows L2
section
variable {X : Cx} {T : List Addr} {e a b c : Expr} {es rest : List Expr} {f g h : E} {fs : List E} {pos p : Pos} {st : Stmt} {sts : List Stmt} {F G : Dm.S} {Fs : List Dm.S}

/-! ### for, while -/
theorem forL_cons {t : Tg} {x : D} {xs : List D} {r : Env} {y : Res} (h : forL t F (x :: xs) r = some y) : ∃ r1 z, asg t x r = some r1 ∧ F r1 = some z ∧ (match z with
    | .nx r2 => forL t F xs r2 = some y
    | .ct r2 => forL t F xs r2 = some y
    | .bk r2 => y = .nx r2
    | .rt d => y = .rt d) := by
  simp only [forL, Option.bind_eq_bind, Option.bind_eq_some_iff] at h
  obtain ⟨r1, h1, z, h2, h3⟩ := h
  refine ⟨r1, z, h1, h2, ?_⟩
  cases z with
  | nx r2 => exact h3
  | ct r2 => exact h3
  | bk r2 => exact (Option.some.inj h3).symm
  | rt d => exact (Option.some.inj h3).symm
theorem s_for {tg iter : Expr} {body : List Stmt} {it : I} {t : Tg} (hp : PassesOwn (model X.prog X.w) X.A X.env X.xe) (hc : X.calm = true) (hi : DI X T false tg iter it) (hg : DG X T tg t) (hb : DSs X T body F)
    (hs : ∀ x, foldedSetIterable iter X.env x = pure x := by intro _; rfl) : DS X T (.For tg iter body [] pos) (sFor it t F) := ⟨PS.imp (ps_for hp hc hi.pi hg.pg hb.ps hs) fun Z σ H ⟨O, S, r, x, o, ef, q⟩ => by
  simp only [sFor, Option.bind_eq_bind, Option.bind_eq_some_iff] at ef
  obtain ⟨ds, e1, e2⟩ := ef
  refine ⟨S, r, ds, o.env, e1, fun J H1 kp fx n1 hk hfx hit => ?_⟩
  let W : Nat → Nat → L2.St → Hp → Prop := fun i m σ' H' => ∃ S' r', i + m = ds.length ∧ SOk X.K T O S' H' σ' r' ∧ Aft T O S H1 S' H' ∧ forL t F (ds.drop i) r' = some x
  refine ⟨W, ⟨ds.length, S, r, by omega, o.nxt n1, Aft.refl n1.tabs, by simpa using e2⟩, ?_⟩
  rintro i m σ' H' ⟨S', r', him, o', a', ec⟩
  have q' := (q.after n1.aft).after a'
  have kc : ∀ y ∈ kp, RpB X.K S' H' y.1 y.2 := fun y hy => .inl (Rp.le a'.le (hk y hy))
  obtain ⟨stp, go⟩ := hit S' H' o'.env.tabs o'.env.live kc (hfx.aft a')
  by_cases hi : ds.length ≤ i
  · refine .inl ⟨stp i hi, ?_⟩
    rw [List.drop_eq_nil_of_le hi] at ec
    simp only [forL, Option.some.injEq] at ec
    subst ec
    exact q' S' σ' H' o' (Aft.refl o'.env.tabs)
  · have hi' : i < ds.length := Nat.lt_of_not_le hi
    obtain ⟨g1, g2⟩ := go i _ (List.getElem?_eq_getElem hi')
    rw [List.drop_eq_getElem_cons hi'] at ec
    obtain ⟨r1, z, f1, f2, f3⟩ := forL_cons ec
    refine .inr ⟨g1, W (i + 1) (m - 1), fun σ2 H2 w => ⟨m - 1, by omega, w⟩, fun v H2 y => ?_⟩
    obtain ⟨n2, rv⟩ := g2 v H2 y
    refine ⟨S', r', _, r1, o'.env.nxt n2, rv, f1, fun σ3 o3 u3 => ?_⟩
    have so3 : SOk X.K T O S' H2 σ3 r1 := o'.asg f1 o3 u3
    have a3 : Aft T O S H1 S' H2 := a'.trans n2.aft
    have q3 := q'.after (n2.aft (O := O))
    refine ⟨O, S', r1, z, so3, f2, ?_⟩
    cases z with
    | nx r2 => exact fun S4 σ4 H4 o4 a4 => ⟨S4, r2, by omega, o4, a3.trans a4, f3⟩
    | ct r2 => exact fun S4 σ4 H4 o4 a4 => ⟨S4, r2, by omega, o4, a3.trans a4, f3⟩
    | bk r2 =>
      simp only at f3
      subst f3
      exact fun S4 σ4 H4 o4 a4 => q3 S4 σ4 H4 o4 a4
    | rt d =>
      simp only at f3
      subst f3
      exact fun v S4 H4 a4 rp => q3 v S4 H4 a4 rp⟩
theorem whL_succ {t : Dm.T} {n : Nat} {r : Env} {y : Res} (h : whL t F n r = some y) : ∃ m k, n = m + 1 ∧ t r = some k ∧ if k = true then ∃ z, F r = some z ∧ (match z with
    | .nx r2 => whL t F m r2 = some y
    | .ct r2 => whL t F m r2 = some y
    | .bk r2 => y = .nx r2
    | .rt d => y = .rt d) else y = .nx r := by
  cases n with
  | zero => cases h
  | succ m =>
    simp only [whL, Option.bind_eq_bind, Option.bind_eq_some_iff] at h
    obtain ⟨k, h1, h2⟩ := h
    refine ⟨m, k, rfl, h1, ?_⟩
    cases k with
    | false => simp at h2 ⊢; exact h2.symm
    | true =>
      simp only [if_true, Option.bind_eq_some_iff] at h2 ⊢
      obtain ⟨z, h3, h4⟩ := h2
      refine ⟨z, h3, ?_⟩
      cases z with
      | nx r2 => exact h4
      | ct r2 => exact h4
      | bk r2 => exact (Option.some.inj h4).symm
      | rt d => exact (Option.some.inj h4).symm
theorem s_wh {body : List Stmt} {t : Dm.T} (hp : PassesOwn (model X.prog X.w) X.A X.env X.xe) (hc : DT X T c t) (hb : DSs X T body F) : DS X T (.While c body [] pos) (sWh t F) := ⟨PS.imp (ps_while hp hc.pt hb.ps) fun Z σ H ⟨O, S, r, x, o, ef, q⟩ => by
  let W : Nat → L2.St → Hp → Prop := fun m σ' H' => ∃ S' r', SOk X.K T O S' H' σ' r' ∧ Aft T O S H S' H' ∧ whL t F m r' = some x
  refine ⟨W, ⟨100000, S, r, o, Aft.refl o.env.tabs, ef⟩, ?_⟩
  rintro m σ' H' ⟨S', r', o', a', ec⟩
  obtain ⟨m', k, rfl, e1, e2⟩ := whL_succ ec
  refine ⟨S', r', k, o'.env, e1, fun H2 n2 => ?_⟩
  have a3 : Aft T O S H S' H2 := a'.trans n2.aft
  have q3 := q.after a3
  cases k with
  | false =>
    rw [if_neg Bool.false_ne_true] at e2
    subst e2
    exact q3 S' σ' H2 (o'.nxt n2) (Aft.refl n2.tabs)
  | true =>
    rw [if_pos rfl] at e2
    obtain ⟨z, e3, e4⟩ := e2
    refine ⟨W m', fun σ3 H3 w => ⟨m', Nat.lt_succ_self _, w⟩, O, S', r', z, o'.nxt n2, e3, ?_⟩
    cases z with
    | nx r2 => exact fun S4 σ4 H4 o4 a4 => ⟨S4, r2, o4, a3.trans a4, e4⟩
    | ct r2 => exact fun S4 σ4 H4 o4 a4 => ⟨S4, r2, o4, a3.trans a4, e4⟩
    | bk r2 =>
      simp only at e4
      subst e4
      exact fun S4 σ4 H4 o4 a4 => q3 S4 σ4 H4 o4 a4
    | rt d =>
      simp only at e4
      subst e4
      exact fun v S4 H4 a4 rp => q3 v S4 H4 a4 rp⟩

/-! ### own lists and dicts -/
theorem own_some {r : Env} {i : Nat} {d : D} (h : Dm.own r i = some d) : r[i]? = some (.ow d) := by
  unfold Dm.own at h
  split at h
  · rename_i d' hd'; cases h; exact hd'
  · cases h
theorem SOk.at {K : PySem.W.Frag} {O S : List Addr} {H : Hp} {σ : L2.St} {r : Env} (o : SOk K T O S H σ r) {i : Nat} {d : D} (h : r[i]? = some (.ow d)) : ∃ q, σ[i]? = some (some (.ref q)) ∧ q ∈ S ∧ q ∉ O ∧ Own K S H q d := by
  obtain ⟨v, e1, q, e2, m, ow⟩ := o.env.at h
  subst e2
  exact ⟨q, e1, m, o.own i _ _ h e1, ow⟩
theorem mns_upd' {S : List Addr} {H : Hp} {p : Addr} {o : HO} (hp : p ∈ S) : mns S (upd H p o) = mns S H := by
  funext a
  by_cases h : a ∈ S
  · rw [mns_none h, mns_none h]
  · rw [mns_of h, mns_of h]
    exact upd_ne fun z => h (by rw [z]; exact hp)
theorem Own.other' {K : PySem.W.Frag} {S : List Addr} {H : Hp} {p q : Addr} {o : HO} {d : D} (hp : p ∈ S) (h : Own K S H q d) (hne : q ≠ p) : Own K S (upd H p o) q d := by
  cases h with
  | lst e r => exact .lst ((upd_ne hne).trans e) (by rw [mns_upd' hp]; exact r)
  | dk e r => exact .dk ((upd_ne hne).trans e) (by rw [mns_upd' hp]; exact r)
  | dt e r => exact .dt ((upd_ne hne).trans e) (by rw [mns_upd' hp]; exact r)
/-- the own list or dict of i is written -/
theorem SOk.write {K : PySem.W.Frag} {O S : List Addr} {H : Hp} {σ : L2.St} {r : Env} {i : Nat} {q : Addr} {d d' : D} {u v : HO} (o : SOk K T O S H σ r) (hi : r[i]? = some (.ow d)) (hs : σ[i]? = some (some (.ref q))) (hq : q ∈ S) (hO : q ∉ O) (hu : H q = some u) (nu : NT u) (nv : NT v)
    (ow : Own K S (upd H q v) q d') : SOk K T O S (upd H q v) σ (r.set i (.ow d')) ∧ Aft T O S H S (upd H q v) := by
  have a := aft_upd (o := v) o.env.tabs hq hO hu nu
  have keep : ∀ b, b ≠ q → upd H q v b = H b := fun b hb => upd_ne hb
  have e1 : EnvOk K T S (upd H q v) σ (r.set i (.no)) := by
    refine ⟨a.tabs, fun a ha => ?_, by rw [List.length_set]; exact o.env.len, fun j w sl h1 h2 => ?_, fun j k p' x y h1 h2 h3 h4 => ?_⟩
    · by_cases hb : a = q
      · subst hb; exact ⟨v, upd_same, nv⟩
      · obtain ⟨o', h1, h2⟩ := o.env.live a ha
        exact ⟨o', (keep a hb).trans h1, h2⟩
    · by_cases hj : i = j
      · subst hj
        obtain ⟨h3, h4⟩ := List.getElem?_eq_some_iff.mp h2
        rw [List.getElem_set_self] at h4
        subst h4; exact True.intro
      · rw [List.getElem?_set_ne hj] at h2
        have z := o.env.slot j w sl h1 h2
        cases sl with
        | no => exact z
        | va d => obtain ⟨x, z1, z2⟩ := z; exact ⟨x, z1, by rw [mns_upd' hq]; exact z2⟩
        | ow d =>
          obtain ⟨p', z1, z2, z3⟩ := z
          refine ⟨p', z1, z2, z3.other' hq fun z => hj ?_⟩
          subst z z1
          exact o.env.inj i j _ _ _ hi h2 hs h1
    · by_cases hj : i = j
      · subst hj
        obtain ⟨_, z⟩ := List.getElem?_eq_some_iff.mp h1
        rw [List.getElem_set_self] at z; cases z
      · by_cases hk : i = k
        · subst hk
          obtain ⟨_, z⟩ := List.getElem?_eq_some_iff.mp h2
          rw [List.getElem_set_self] at z; cases z
        · rw [List.getElem?_set_ne hj] at h1
          rw [List.getElem?_set_ne hk] at h2
          exact o.env.inj j k p' x y h1 h2 h3 h4
  have s1 : SOk K T O S (upd H q v) σ (r.set i .no) := ⟨e1, o.sub, fun j x p' h1 h2 => by
    by_cases hj : i = j
    · subst hj
      obtain ⟨_, z⟩ := List.getElem?_eq_some_iff.mp h1
      rw [List.getElem_set_self] at z; cases z
    · rw [List.getElem?_set_ne hj] at h1
      exact o.own j x p' h1 h2⟩
  have s2 := s1.setOw i hq hO ow fun j x hj h1 h2 => by
    rw [List.getElem?_set_ne (Ne.symm hj)] at h1
    exact hj (o.env.inj j i _ _ _ h1 hi h2 hs)
  have e2 : σ.set i (some (.ref q)) = σ := by
    apply List.ext_getElem?
    intro j
    by_cases hj : i = j
    · subst hj
      rw [List.getElem?_set_self' , hs]; rfl
    · rw [List.getElem?_set_ne hj]
  rw [e2, List.set_set] at s2
  exact ⟨s2, a⟩
theorem lenOk_lt {n : Nat} (h : lenOk (n + 1) = true) : n < sizeLine := lenOk_le h
theorem Own.list {K : PySem.W.Frag} {S : List Addr} {H : Hp} {q : Addr} {ds : List D} (o : Own K S H q (.list ds)) : ∃ xs, H q = some (.lst xs) ∧ RpAll K (mns S H) xs ds := by
  cases o with
  | lst e r => exact ⟨_, e, r⟩
theorem s_app (i : Nat) {x : Str} {p1 p2 p3 : Pos} (ha : DE X T a f) (hN : X.N[i]? = some x := by rfl) (hv : Vis X.env.scope x := by first | exact Or.inl rfl | exact Or.inr (Or.inl rfl) | exact Or.inr (Or.inr rfl)) (hd : (x == ("__debug__" : Str)) = false := by decide)
    (hcd : (x == ("__classdict__" : Str)) = false := by decide) (hs1 : starEach [a] X.env = (false, eval a X.env) :: starEach [] X.env := by rfl)
    (hbase : attributeBase (.Name x p1) "append" X.env (eval (.Name x p1) X.env) = eval (.Name x p1) X.env := by rfl)
    (hfew : ((backTo p3 (starEach [a] X.env)).all (fun x => !x.1) && (backToKw p3 (keywordEach [] X.env)).all (fun x => x.1.isSome) && decide ([a].length + ([] : List Keyword).length + (if ([] : List Keyword).isEmpty then 0 else 1) < 30)) = true := by rfl)
    (hline : (p2.endLine == p3.line) = true := by rfl) (hsw : swapsWith (.Call (.Attribute (.Name x p1) "append" p2) [a] [] p3) none pos.line X.env = pure false := by rfl) :
    DS X T (.Expr (.Call (.Attribute (.Name x p1) "append" p2) [a] [] p3) pos) (sApp i f) :=
  ⟨PS.imp (ps_expr (pe_bm PySem.F.plainAttrs_list PySem.F.slot_list_append PySem.F.type_list_append mt_append (pe_var hN hv hd hcd) (a_cons ha a_nil hs1).pa hbase hfew hline hs1 (by rfl)) hsw) fun Z σ H ⟨O, S, r, y, o, ef, q⟩ => by
    simp only [sApp, Option.bind_eq_bind, Option.bind_eq_some_iff] at ef
    obtain ⟨d, e1, d2, e2, e3⟩ := ef
    have e2 := own_some e2
    split at e3
    · rename_i ds
      split at e3
      · rename_i hz
        cases e3
        obtain ⟨l, hl, hm, hO, ow⟩ := o.at e2
        obtain ⟨xs, hx, rr⟩ := ow.list
        refine ⟨_, hl, .inl ⟨rfl, xs, .inl (.inl hx)⟩, S, r, [d], o.env, by simp [argsE, e1], fun vs H1 n1 rp => ?_⟩
        cases rp with
        | cons ra rb =>
          cases rb
          have hx1 : H1 l = some (.lst xs) := n1.ext _ _ hx fun _ z => by cases z
          have rr1 := rr.le (le_mns (S := S) n1.le)
          refine ⟨l, xs, _, rfl, rfl, hx1, by rw [rr.length]; exact lenOk_lt hz, ?_⟩
          obtain ⟨s2, a2⟩ := (o.nxt n1).write (v := .lst (xs ++ [_])) e2 hl hm hO hx1 (NT.lst _) (NT.lst _) (.lst upd_same (by rw [mns_upd' hm]; exact rr1.append (.cons ra .nil)))
          exact q S σ _ s2 (n1.aft.trans a2)
      · cases e3
    · cases e3⟩
end
end Dm
end

section
set_option Elab.async false
set_option linter.all false
set_option autoImplicit true
set_option maxRecDepth 100000
set_option maxHeartbeats 1000000
/-! DStmt3: places of own lists and dicts written; what is popped; names moved; defs. -/
namespace Dm
open PySem PySem.Spec PyProof.Rows L2

/-! ### putting into a dict -/
theorem any_kD {K : PySem.W.Frag} {H : Hp} (k : Key) : ∀ {ks : List (Key × V)} {kvs : List (D × D)}, RpK K H ks kvs → (kvs.any fun q => PyData.eqv q.1 (kD k)) = ks.any fun q => decide (q.1 = k)
  | _, _, .nil => rfl
  | (k', v) :: ks, (_, d) :: kvs, .cons hp r => by
    rw [List.any_cons, List.any_cons, any_kD k r]
    show (PyData.eqv (kD k') (kD k) || _) = _
    rw [eqv_kD]
theorem any_tD {K : PySem.W.Frag} {H : Hp} (k : List Key) : ∀ {ks : List (List Key × V)} {kvs : List (D × D)}, RpT K H ks kvs → (kvs.any fun q => PyData.eqv q.1 (.tuple (k.map kD))) = ks.any fun q => decide (q.1 = k)
  | _, _, .nil => rfl
  | (k', v) :: ks, (_, d) :: kvs, .cons hp r => by
    rw [List.any_cons, List.any_cons, any_tD k r]
    show (PyData.eqv (.tuple (k'.map kD)) (.tuple (k.map kD)) || _) = _
    rw [eqv_tD]
theorem RpK.append {K : PySem.W.Frag} {H : Hp} : ∀ {ks ls : List (Key × V)} {kvs lvs : List (D × D)}, RpK K H ks kvs → RpK K H ls lvs → RpK K H (ks ++ ls) (kvs ++ lvs)
  | _, _, _, _, .nil, s => s
  | _, _, _, _, .cons r t, s => .cons r (RpK.append t s)
theorem RpT.append {K : PySem.W.Frag} {H : Hp} : ∀ {ks ls : List (List Key × V)} {kvs lvs : List (D × D)}, RpT K H ks kvs → RpT K H ls lvs → RpT K H (ks ++ ls) (kvs ++ lvs)
  | _, _, _, _, .nil, s => s
  | _, _, _, _, .cons r t, s => .cons r (RpT.append t s)
theorem RpK.over {K : PySem.W.Frag} {H : Hp} {k : Key} {v : V} {d : D} (q : Rp K H v d) : ∀ {ks : List (Key × V)} {kvs : List (D × D)}, RpK K H ks kvs →
    RpK K H (ks.map (fun kv => if kv.1 = k then (kv.1, v) else kv)) (kvs.map (fun p => if PyData.eqv p.1 (kD k) = true then (p.1, d) else p))
  | _, _, .nil => .nil
  | (k', v') :: ks, (_, d') :: kvs, .cons hp r => by
    rw [List.map_cons, List.map_cons]
    by_cases h : k' = k
    · rw [if_pos h, if_pos (by show PyData.eqv (kD k') (kD k) = true; rw [eqv_kD]; simp [h])]
      exact .cons q (RpK.over q r)
    · rw [if_neg h, if_neg (by show ¬ PyData.eqv (kD k') (kD k) = true; rw [eqv_kD]; simp [h])]
      exact .cons hp (RpK.over q r)
theorem RpT.over {K : PySem.W.Frag} {H : Hp} {k : List Key} {v : V} {d : D} (q : Rp K H v d) : ∀ {ks : List (List Key × V)} {kvs : List (D × D)}, RpT K H ks kvs →
    RpT K H (ks.map (fun kv => if kv.1 = k then (kv.1, v) else kv)) (kvs.map (fun p => if PyData.eqv p.1 (.tuple (k.map kD)) = true then (p.1, d) else p))
  | _, _, .nil => .nil
  | (k', v') :: ks, (_, d') :: kvs, .cons hp r => by
    rw [List.map_cons, List.map_cons]
    by_cases h : k' = k
    · rw [if_pos h, if_pos (by show PyData.eqv (.tuple (k'.map kD)) (.tuple (k.map kD)) = true; rw [eqv_tD]; simp [h])]
      exact .cons q (RpT.over q r)
    · rw [if_neg h, if_neg (by show ¬ PyData.eqv (.tuple (k'.map kD)) (.tuple (k.map kD)) = true; rw [eqv_tD]; simp [h])]
      exact .cons hp (RpT.over q r)
theorem RpK.put {K : PySem.W.Frag} {H : Hp} {k : Key} {v : V} {d : D} {ks : List (Key × V)} {kvs : List (D × D)} (q : Rp K H v d) (r : RpK K H ks kvs) : RpK K H (putK ks k v) (putD kvs (kD k) d) := by
  unfold putK putD
  rw [any_kD k r]
  split
  · exact r.over q
  · exact r.append (.cons q .nil)
theorem RpT.put {K : PySem.W.Frag} {H : Hp} {k : List Key} {v : V} {d : D} {ks : List (List Key × V)} {kvs : List (D × D)} (q : Rp K H v d) (r : RpT K H ks kvs) : RpT K H (putK ks k v) (putD kvs (.tuple (k.map kD)) d) := by
  unfold putK putD
  rw [any_tD k r]
  split
  · exact r.over q
  · exact r.append (.cons q .nil)
/-- an own dict takes a key -/
def rPutD (K : PySem.W.Frag) : TSet := fun o i v H Q => ∃ S q kvs k d, o = .ref q ∧ q ∈ S ∧ Own K S H q (.dict kvs) ∧ Rp K (mns S H) i k ∧ Rp K (mns S H) v d ∧ fitsK kvs k = true ∧ lenOk (kvs.length + 1) = true ∧
  ∀ u nv, H q = some u → NT u → NT nv → Own K S (upd H q nv) q (.dict (putD kvs k d)) → Q (upd H q nv)
theorem set_dictD {X : Cx} (hu : X.A.units + 1 < cLine) : PSet X (rPutD X.K) := by
  intro pins s σ H o i v ov iv uu Q I ro ri rv ⟨S, q, kvs, k, d, eo, hq, ow, rk, rd, hf, hz, h⟩
  subst eo
  cases (show ov = Value.ref q from ro)
  have hz := lenOk_lt hz
  have key : ∀ {k : List Key} {x : V}, Rp X.K (mns S H) x (.tuple (k.map kD)) → ∃ b, x = .ref b ∧ b ≠ q ∧ H b = some (.tup (k.map kV)) := fun {k x} r => by
    generalize hd : PyData.tuple (k.map kD) = d0 at r
    cases r with
    | tup hH rr =>
      cases hd
      obtain ⟨h1, h2⟩ := mns_some hH
      exact ⟨_, rfl, fun z => h2 (z ▸ hq), by rw [h1, kDs_kV rr]⟩
    | _ => cases hd
  by_cases hne : kvs = []
  · subst hne
    have emp : ∃ u, (u = .dK [] ∨ u = .dT []) ∧ H q = some u := by
      cases ow with
      | dk e r => cases r; exact ⟨_, .inl rfl, e⟩
      | dt e r => cases r; exact ⟨_, .inr rfl, e⟩
    obtain ⟨u, hu', e⟩ := emp
    have nu : NT u := by rcases hu' with rfl | rfl; exact NT.dK _; exact NT.dT _
    rcases Bool.or_eq_true_iff.mp (fits_key hf) with hk | hk
    · obtain ⟨k, rfl⟩ := flatK_key hk
      have ei := kD_kV rk
      subst ei
      have I1 := inv_emp I hu' (.inl rfl) e
      refine d_setItem hu I1 (DPut.k upd_same hz) ri rv fun s' I' => ⟨_, I', ?_⟩
      rw [upd_upd]
      exact h u _ e nu (NT.dK _) (.dk upd_same (by rw [mns_upd' hq]; exact RpK.put (ks := []) rd .nil))
    · obtain ⟨k, rfl⟩ := tupK_key hk
      obtain ⟨b, rfl, hb, eb⟩ := key rk
      have I1 := inv_emp I hu' (.inr rfl) e
      refine d_setItem hu I1 (DPut.t upd_same ((upd_ne hb).trans eb) hz) ri rv fun s' I' => ⟨_, I', ?_⟩
      rw [upd_upd]
      exact h u _ e nu (NT.dT _) (.dt upd_same (by rw [mns_upd' hq]; exact RpT.put (ks := []) rd .nil))
  · cases ow with
    | dk e r =>
      obtain ⟨k, rfl⟩ := fitK r hne hf
      have ei := kD_kV rk
      subst ei
      exact d_setItem hu I (DPut.k e (by rw [r.length]; exact hz)) ri rv fun s' I' => ⟨_, I', h _ _ e (NT.dK _) (NT.dK _) (.dk upd_same (by rw [mns_upd' hq]; exact r.put rd))⟩
    | dt e r =>
      obtain ⟨k, rfl⟩ := fitT r hne hf
      obtain ⟨b, rfl, hb, eb⟩ := key rk
      exact d_setItem hu I (DPut.t e eb (by rw [r.length]; exact hz)) ri rv fun s' I' => ⟨_, I', h _ _ e (NT.dT _) (NT.dT _) (.dt upd_same (by rw [mns_upd' hq]; exact r.put rd))⟩
theorem PSet.or {X : Cx} {t u : TSet} (h : PSet X t) (h' : PSet X u) : PSet X (fun o i v H Q => t o i v H Q ∨ u o i v H Q) := fun pins s σ H o i v ov iv uu Q I ro ri rv q => q.elim (h pins s σ H o i v ov iv uu Q I ro ri rv) (h' pins s σ H o i v ov iv uu Q I ro ri rv)
theorem setAt_ixN {xs ys : List D} {i : Int} {d : D} (h : setAt xs i d = some ys) : ∃ j, ixN xs.length i = some j ∧ ys = xs.set j d := by
  unfold setAt at h
  unfold ixN
  by_cases h0 : 0 ≤ i
  · rw [if_pos h0] at h ⊢
    split at h
    · rename_i hl
      cases h
      exact ⟨i.toNat, by rw [if_pos (by omega)], rfl⟩
    · cases h
  · rw [if_neg h0] at h ⊢
    split at h
    · rename_i hl
      cases h
      exact ⟨_, by rw [if_pos (by omega)], by congr 1; omega⟩
    · cases h
section
variable {X : Cx} {T : List Addr} {e a b c : Expr} {es rest : List Expr} {f g h : E} {fs : List E} {pos p : Pos} {st : Stmt} {sts : List Stmt} {F G : Dm.S} {Fs : List Dm.S}
/-- x[k] = e -/
theorem s_put (i : Nat) {x : Str} {p1 p2 : Pos} (hu : X.A.units + 1 < cLine) (hk : DE X T b g) (ha : DE X T a f) (hN : X.N[i]? = some x := by rfl) (hv : Vis X.env.scope x := by first | exact Or.inl rfl | exact Or.inr (Or.inl rfl) | exact Or.inr (Or.inr rfl)) (hd : (x == ("__debug__" : Str)) = false := by decide)
    (hcd : (x == ("__classdict__" : Str)) = false := by decide) (has : ∀ v, assign (.Subscript (.Name x p1) b p2) X.env v = (do
      let ov ← holding [v] (eval (.Name x p1) X.env)
      let iv ← holding [v, ov] (eval b X.env)
      standAt p2
      holding [v, ov, iv] (setItem ov iv v)
      release [v, ov, iv] []) := by intro _; rfl) (hs : swapsWithSole [.Subscript (.Name x p1) b p2] a pos.line X.env = pure false := by rfl) (hw : swappedStores [.Subscript (.Name x p1) b p2] a X.env = pure none := by rfl)
    (h1 : (assignEach [.Subscript (.Name x p1) b p2] X.env).map (·.2) = [assign (.Subscript (.Name x p1) b p2) X.env] := by rfl) : DS X T (.Assign [.Subscript (.Name x p1) b p2] a pos) (sPut i g f) :=
  ⟨PS.imp (ps_asg ha.pe (pg_sub (pe_var hN hv hd hcd) hk.pe (PSet.or set_list (set_dictD hu)) has) hs hw h1) fun Z σ H ⟨O, S, r, y, o, ef, q⟩ => by
    simp only [sPut, Option.bind_eq_bind, Option.bind_eq_some_iff] at ef
    obtain ⟨d, e1, k, e2, c, e3, e4⟩ := ef
    replace e3 := own_some e3
    obtain ⟨l, hl, hm, hO, ow⟩ := o.at e3
    refine ⟨S, r, d, o.env, e1, fun v H1 n1 rv => ⟨_, hl, S, r, k, o.env.nxt n1, e2, fun kv H2 n2 rk => ?_⟩⟩
    have n := n1.trans n2
    have ow2 := ow.nxt n.ext
    have rv2 := rv.le (le_mns (S := S) n2.le)
    split at e4
    · rename_i ds
      split at e4
      · rename_i j
        simp only [Option.bind_eq_bind, Option.bind_eq_some_iff] at e4
        obtain ⟨ys, e5, e6⟩ := e4
        cases e6
        cases rk
        obtain ⟨m, h3, rfl⟩ := setAt_ixN e5
        obtain ⟨xs, hx, rr⟩ := ow2.list
        refine .inl ⟨l, xs, j, m, rfl, rfl, hx, by rw [rr.length]; exact h3, ?_⟩
        obtain ⟨s2, a2⟩ := (o.nxt n).write (v := .lst (xs.set m v)) e3 hl hm hO hx (NT.lst _) (NT.lst _) (.lst upd_same (by rw [mns_upd' hm]; exact RpAll.set rv2 m rr))
        exact q S σ _ s2 (n.aft.trans a2)
      · cases e4
    · rename_i kvs
      split at e4
      · rename_i hb
        cases e4
        obtain ⟨h3, h4⟩ := Bool.and_eq_true_iff.mp hb
        refine .inr ⟨S, l, kvs, k, d, rfl, hm, ow2, rk, rv2, h3, h4, fun u nv hu nu nn o3 => ?_⟩
        obtain ⟨s2, a2⟩ := (o.nxt n).write e3 hl hm hO hu nu nn o3
        exact q S σ _ s2 (n.aft.trans a2)
      · cases e4
    · cases e4⟩
end
end Dm
end

section
set_option Elab.async false
set_option linter.all false
set_option autoImplicit true
set_option maxRecDepth 100000
set_option maxHeartbeats 1000000
/-! DStmt4: extend, pop, names moved; defs. -/
namespace Dm
open PySem PySem.Spec PyProof.Rows L2
/-- xs.extend(zs), zs a list that stands anywhere -/
theorem extend_at (l : Addr) (items : Array Value) (n : Nat) (b : Addr) (items2 : Array Value) (n2 : Nat) (sl : Array (Option Value)) (hc0 : ¬(!items.isEmpty && Builtin.List.listTooLong (items.size + items2.size)) = true) (hc1 : items.size ≤ sizeLine) (hs2 : items.size + items2.size ≤ sizeLine + 1) :
    Meets (Builtin.«list.extend» ⟨[.ref l, .ref b], []⟩) (fun _ R s => s.heap.get? l = some { cls := .type "list", dict := none, data := .seq items n, slots := #[] } ∧ s.heap.get? b = some { cls := .type "list", dict := none, data := .seq items2 n2, slots := sl } ∧ R (.ok (.ret Value.none)) { s with heap := s.heap.update l (Obj.mapSeq fun x => x ++ items2), toks := s.toks }) :=
  .of_wp fun prog w A R s h => by
    obtain ⟨hp, g, d, tk, os⟩ := s; obtain ⟨hl, hb, h⟩ := h; have f1 := AutoSeq1.idx_int; have f2 := AutoSeq1.sub_tuple_tuple; have f3 := AutoSeq1.sub_list_list; have f4 := AutoSeq1.sub_tuple_list; have f5 := AutoSeq1.sub_list_tuple;
    have hz' : (items ++ items2).size ≤ sizeLine + 1 := by rw [Array.size_append]; exact hs2
    wp_walk using (wpAny_updateSeq hl rfl (hz := hc1) (_hz' := hz')), AutoSeq1.wpAny_loadPart' hl, AutoSeq1.wpAny_loadPart' hb; exact ⟨_, rfl, h⟩
/-- xs.extend(zs), zs a tuple that stands anywhere -/
theorem extend_tup_at (l : Addr) (items : Array Value) (n : Nat) (b : Addr) (items2 : Array Value) (n2 : Nat) (sl : Array (Option Value)) (dc : Option Addr) (hc0 : ¬(!items.isEmpty && Builtin.List.listTooLong (items.size + items2.size)) = true) (hc1 : items.size ≤ sizeLine) (hs2 : items.size + items2.size ≤ sizeLine + 1) :
    Meets (Builtin.«list.extend» ⟨[.ref l, .ref b], []⟩) (fun _ R s => s.heap.get? l = some { cls := .type "list", dict := none, data := .seq items n, slots := #[] } ∧ s.heap.get? b = some { cls := .type "tuple", dict := dc, data := .seq items2 n2, slots := sl } ∧ R (.ok (.ret Value.none)) { s with heap := s.heap.update l (Obj.mapSeq fun x => x ++ items2), toks := s.toks }) :=
  .of_wp fun prog w A R s h => by
    obtain ⟨hp, g, d, tk, os⟩ := s; obtain ⟨hl, hb, h⟩ := h; have f1 := AutoSeq1.idx_int; have f2 := AutoSeq1.sub_tuple_tuple; have f3 := AutoSeq1.sub_list_list; have f4 := AutoSeq1.sub_tuple_list; have f5 := AutoSeq1.sub_list_tuple;
    have hz' : (items ++ items2).size ≤ sizeLine + 1 := by rw [Array.size_append]; exact hs2
    wp_walk using (wpAny_updateSeq hl rfl (hz := hc1) (_hz' := hz')), AutoSeq1.wpAny_loadPart' hl, AutoSeq1.wpAny_loadPart' hb; exact ⟨_, rfl, h⟩
def rExtL (K : PySem.W.Frag) : V → List V → Hp → VK → Prop := fun x vs H Q => ∃ l b xs zs, x = .ref l ∧ vs = [.ref b] ∧ H l = some (.lst xs) ∧ (SqL K H b zs ∨ SqT K H b zs) ∧ xs.length + zs.length ≤ sizeLine ∧ Q .non (upd H l (.lst (xs ++ zs)))
theorem mt_extL {X : Cx} : MtM X "list.extend" (rExtL X.K) := by
  intro pins s σ H x vs v us Q I rx rv h
  obtain ⟨l, b, xs, zs, rfl, rfl, hH, hB, hz, q⟩ := h
  cases rx
  obtain ⟨u, rfl, ru⟩ := rv.one
  cases ru
  obtain ⟨z, its, n, r, hl, e⟩ := I.lstM hH
  have fin : ∀ {its2 : List Value}, Vals zs its2 → ∃ x H', Inv X pins σ H' { s with heap := s.heap.update l (Obj.mapSeq fun x => x ++ its2.toArray), toks := s.toks } ∧ RelV x Value.none ∧ Q x H' := fun {its2} r2 => by
    refine ⟨.non, _, I.lset (its' := its ++ its2) hH e (by simp) (r.append r2) ?_, rfl, q⟩
    rw [List.length_append]
    exact hz
  rcases hB with hB | hB
  · obtain ⟨its2, r2, ⟨o, n2, e2, hc, hd, hdt⟩, z2⟩ := I.list hB
    obtain ⟨oc, od, odt, osl⟩ := o
    cases hc; cases hd; cases hdt
    have hl2 := r2.length
    have hsz : its.toArray.size + its2.toArray.size ≤ sizeLine := by rw [List.size_toArray, List.size_toArray]; omega
    have hlong : ¬ (!its.toArray.isEmpty && Builtin.List.listTooLong (its.toArray.size + its2.toArray.size)) = true := by
      rw [notLongL hsz, Bool.and_false]
      exact Bool.false_ne_true
    exact call_meets PySem.F.slot_list_extend ⟨_, e, rfl⟩ PySem.F.entry_list_extend (PySem.F.args_list_extend_2 _ _) (extend_at l its.toArray n b its2.toArray n2 osl hlong (by rw [List.size_toArray]; omega) (by omega)) ⟨e, e2, fin r2⟩
  · obtain ⟨its2, r2, ⟨o, e2, hc, n2, hdt⟩, z2⟩ := I.tuple hB
    obtain ⟨oc, od, odt, osl⟩ := o
    cases hc; cases hdt
    have hl2 := r2.length
    have hsz : its.toArray.size + its2.toArray.size ≤ sizeLine := by rw [List.size_toArray, List.size_toArray]; omega
    have hlong : ¬ (!its.toArray.isEmpty && Builtin.List.listTooLong (its.toArray.size + its2.toArray.size)) = true := by
      rw [notLongL hsz, Bool.and_false]
      exact Bool.false_ne_true
    exact call_meets PySem.F.slot_list_extend ⟨_, e, rfl⟩ PySem.F.entry_list_extend (PySem.F.args_list_extend_2 _ _) (extend_tup_at l its.toArray n b its2.toArray n2 osl od hlong (by rw [List.size_toArray]; omega) (by omega)) ⟨e, e2, fin r2⟩
end Dm
end

section
set_option Elab.async false
set_option linter.all false
set_option autoImplicit true
set_option maxRecDepth 100000
set_option maxHeartbeats 1000000
/-! DStmt5: extend, pop, names moved; defs. -/
namespace Dm
open PySem PySem.Spec PyProof.Rows L2
section
variable {X : Cx} {T : List Addr} {e a b c : Expr} {es rest : List Expr} {f g h : E} {fs : List E} {pos p : Pos} {st : Stmt} {sts : List Stmt} {F G : Dm.S} {Fs : List Dm.S}
theorem s_ext (i : Nat) {x : Str} {p1 p2 p3 : Pos} (ha : DE X T a f) (hN : X.N[i]? = some x := by rfl) (hv : Vis X.env.scope x := by first | exact Or.inl rfl | exact Or.inr (Or.inl rfl) | exact Or.inr (Or.inr rfl)) (hd : (x == ("__debug__" : Str)) = false := by decide)
    (hcd : (x == ("__classdict__" : Str)) = false := by decide) (hs1 : starEach [a] X.env = (false, eval a X.env) :: starEach [] X.env := by rfl)
    (hbase : attributeBase (.Name x p1) "extend" X.env (eval (.Name x p1) X.env) = eval (.Name x p1) X.env := by rfl)
    (hfew : ((backTo p3 (starEach [a] X.env)).all (fun x => !x.1) && (backToKw p3 (keywordEach [] X.env)).all (fun x => x.1.isSome) && decide ([a].length + ([] : List Keyword).length + (if ([] : List Keyword).isEmpty then 0 else 1) < 30)) = true := by rfl)
    (hline : (p2.endLine == p3.line) = true := by rfl) (hsw : swapsWith (.Call (.Attribute (.Name x p1) "extend" p2) [a] [] p3) none pos.line X.env = pure false := by rfl) :
    DS X T (.Expr (.Call (.Attribute (.Name x p1) "extend" p2) [a] [] p3) pos) (sExt i (seqI f)) :=
  ⟨PS.imp (ps_expr (pe_bm PySem.F.plainAttrs_list PySem.F.slot_list_extend PySem.F.type_list_extend mt_extL (pe_var hN hv hd hcd) (a_cons ha a_nil hs1).pa hbase hfew hline hs1 (by rfl)) hsw) fun Z σ H ⟨O, S, r, y, o, ef, q⟩ => by
    simp only [sExt, Option.bind_eq_bind, Option.bind_eq_some_iff] at ef
    obtain ⟨zs, e1, d2, e2, e3⟩ := ef
    replace e2 := own_some e2
    split at e3
    · rename_i ds _
      split at e3
      · rename_i hz
        cases e3
        obtain ⟨l, hl, hm, hO, ow⟩ := o.at e2
        obtain ⟨xs, hx, rr⟩ := ow.list
        have go : ∀ d, f r = some d → (∀ v H', Rp X.K (mns S H') v d → ∃ b us, v = .ref b ∧ (SqL X.K H' b us ∨ SqT X.K H' b us) ∧ RpAll X.K (mns S H') us zs) →
            tDrop (tBM X.K "list" (rExtL X.K) (tVar i) (tDA X.K T [f])) Z σ H := fun d ed hd => by
          refine ⟨_, hl, .inl ⟨rfl, xs, .inl (.inl hx)⟩, S, r, [d], o.env, by simp [argsE, ed], fun vs H1 n1 rp => ?_⟩
          cases rp with
          | cons ra rb =>
            cases rb
            obtain ⟨b, us, rfl, hs, rz⟩ := hd _ H1 ra
            have hx1 : H1 l = some (.lst xs) := n1.ext _ _ hx fun _ z => by cases z
            have rr1 := rr.le (le_mns (S := S) n1.le)
            refine ⟨l, b, xs, us, rfl, rfl, hx1, hs, by rw [rr.length, rz.length]; exact lenOk_le hz, ?_⟩
            obtain ⟨s2, a2⟩ := (o.nxt n1).write (v := .lst (xs ++ us)) e2 hl hm hO hx1 (NT.lst _) (NT.lst _) (.lst upd_same (by rw [mns_upd' hm]; exact rr1.append rz))
            exact q S σ _ s2 (n1.aft.trans a2)
        rcases seqI_some e1 with e1 | e1
        · exact go _ e1 fun v H' rv => by
            obtain ⟨b, us, rfl, h1, h2⟩ := RpB.list (.inl rv)
            exact ⟨b, us, rfl, .inl h1, h2⟩
        · exact go _ e1 fun v H' rv => by
            obtain ⟨b, us, rfl, h1, h2⟩ := RpB.tuple (.inl rv)
            exact ⟨b, us, rfl, .inr (.inl (.inl h1)), h2⟩
      · cases e3
    · cases e3⟩
theorem RpAll.dropLast {K : PySem.W.Frag} {H : Hp} : ∀ {vs : List V} {ds : List D}, RpAll K H vs ds → RpAll K H vs.dropLast ds.dropLast
  | _, _, .nil => .nil
  | _, _, .cons a .nil => .nil
  | _, _, .cons a (.cons b t) => .cons a (RpAll.dropLast (.cons b t))
/-- tg = x.pop() -/
theorem s_pop {tg : Expr} {t : Tg} (i : Nat) {x : Str} {p1 p2 p3 : Pos} (hg : DG X T tg t) (hN : X.N[i]? = some x := by rfl) (hv : Vis X.env.scope x := by first | exact Or.inl rfl | exact Or.inr (Or.inl rfl) | exact Or.inr (Or.inr rfl)) (hd : (x == ("__debug__" : Str)) = false := by decide)
    (hcd : (x == ("__classdict__" : Str)) = false := by decide)
    (hbase : attributeBase (.Name x p1) "pop" X.env (eval (.Name x p1) X.env) = eval (.Name x p1) X.env := by rfl)
    (hline : (p2.endLine == p3.line) = true := by rfl) (hs : swapsWithSole [tg] (.Call (.Attribute (.Name x p1) "pop" p2) [] [] p3) pos.line X.env = pure false := by rfl) (hw : swappedStores [tg] (.Call (.Attribute (.Name x p1) "pop" p2) [] [] p3) X.env = pure none := by rfl)
    (h1 : (assignEach [tg] X.env).map (·.2) = [assign tg X.env] := by rfl) :
    DS X T (.Assign [tg] (.Call (.Attribute (.Name x p1) "pop" p2) [] [] p3) pos) (sPop t i) :=
  ⟨PS.imp (ps_asg (pe_bm0 PySem.F.plainAttrs_list PySem.F.slot_list_pop PySem.F.type_list_pop mt_pop (pe_var hN hv hd hcd) hbase hline) hg.pg hs hw h1) fun Z σ H ⟨O, S, r, y, o, ef, q⟩ => by
    simp only [sPop, Option.bind_eq_bind, Option.bind_eq_some_iff] at ef
    obtain ⟨d2, e2, e3⟩ := ef
    replace e2 := own_some e2
    split at e3
    · rename_i ds _
      split at e3
      · rename_i d hlast
        simp only [Option.bind_eq_bind, Option.bind_eq_some_iff] at e3
        obtain ⟨r', e4, e5⟩ := e3
        cases e5
        obtain ⟨l, hl, hm, hO, ow⟩ := o.at e2
        obtain ⟨xs, hx, rr⟩ := ow.list
        rw [List.getLast?_eq_getElem?] at hlast
        obtain ⟨v, hv', rv⟩ := rr.get hlast
        rw [← rr.length] at hv'
        refine ⟨_, hl, .inl ⟨rfl, xs, .inl (.inl hx)⟩, l, xs, v, rfl, rfl, hx, hv', ?_⟩
        obtain ⟨s2, a2⟩ := o.write (v := .lst xs.dropLast) e2 hl hm hO hx (NT.lst _) (NT.lst _) (.lst upd_same (by rw [mns_upd' hm]; exact rr.dropLast))
        exact ⟨S, _, d, r', s2.env, by rw [mns_upd' hm]; exact rv, e4, fun σ' o' u' => q S σ' _ (s2.asg e4 o' u') a2⟩
      · cases e3
    · cases e3⟩
/-- tg = x.pop(0) -/
theorem s_pop0 {tg : Expr} {t : Tg} (i : Nat) {x : Str} {p1 p2 p3 p4 : Pos} {j4 : Nat} (hg : DG X T tg t) (hN : X.N[i]? = some x := by rfl) (hv : Vis X.env.scope x := by first | exact Or.inl rfl | exact Or.inr (Or.inl rfl) | exact Or.inr (Or.inr rfl)) (hd : (x == ("__debug__" : Str)) = false := by decide)
    (hcd : (x == ("__classdict__" : Str)) = false := by decide) (hs1 : starEach [.Constant (.int 0) j4 p4] X.env = (false, eval (.Constant (.int 0) j4 p4) X.env) :: starEach [] X.env := by rfl)
    (hbase : attributeBase (.Name x p1) "pop" X.env (eval (.Name x p1) X.env) = eval (.Name x p1) X.env := by rfl)
    (hfew : ((backTo p3 (starEach [.Constant (.int 0) j4 p4] X.env)).all (fun x => !x.1) && (backToKw p3 (keywordEach [] X.env)).all (fun x => x.1.isSome) && decide ([Expr.Constant (.int 0) j4 p4].length + ([] : List Keyword).length + (if ([] : List Keyword).isEmpty then 0 else 1) < 30)) = true := by rfl)
    (hline : (p2.endLine == p3.line) = true := by rfl) (hs : swapsWithSole [tg] (.Call (.Attribute (.Name x p1) "pop" p2) [.Constant (.int 0) j4 p4] [] p3) pos.line X.env = pure false := by rfl)
    (hw : swappedStores [tg] (.Call (.Attribute (.Name x p1) "pop" p2) [.Constant (.int 0) j4 p4] [] p3) X.env = pure none := by rfl) (h1 : (assignEach [tg] X.env).map (·.2) = [assign tg X.env] := by rfl) :
    DS X T (.Assign [tg] (.Call (.Attribute (.Name x p1) "pop" p2) [.Constant (.int 0) j4 p4] [] p3) pos) (sPop0 t i) :=
  ⟨PS.imp (ps_asg (pe_bm PySem.F.plainAttrs_list PySem.F.slot_list_pop PySem.F.type_list_pop mt_popAt (pe_var hN hv hd hcd) (a_cons (T := T) e_int a_nil hs1).pa hbase hfew hline hs1 (by rfl)) hg.pg hs hw h1) fun Z σ H ⟨O, S, r, y, o, ef, q⟩ => by
    simp only [sPop0, Option.bind_eq_bind, Option.bind_eq_some_iff] at ef
    obtain ⟨d2, e2, e3⟩ := ef
    replace e2 := own_some e2
    split at e3
    · rename_i d ds
      simp only [Option.bind_eq_bind, Option.bind_eq_some_iff] at e3
      obtain ⟨r', e4, e5⟩ := e3
      cases e5
      obtain ⟨l, hl, hm, hO, ow⟩ := o.at e2
      obtain ⟨xs, hx, rr⟩ := ow.list
      cases rr with
      | cons rv rr =>
        rename_i v xs
        refine ⟨_, hl, .inl ⟨rfl, _, .inl (.inl hx)⟩, S, r, [.int 0], o.env, by simp [argsE, kE], fun vs H1 n1 rp => ?_⟩
        cases rp with
        | cons ra rb =>
          cases ra
          cases rb
          have hx1 : H1 l = some (.lst (v :: xs)) := n1.ext _ _ hx fun _ z => by cases z
          have rr1 := rr.le (le_mns (S := S) n1.le)
          have rv1 := rv.le (le_mns (S := S) n1.le)
          refine ⟨l, _, 0, 0, v, rfl, rfl, hx1, by decide, by decide, by simp [seqIndex?], rfl, ?_⟩
          obtain ⟨s2, a2⟩ := (o.nxt n1).write (v := .lst xs) e2 hl hm hO hx1 (NT.lst _) (NT.lst _) (.lst upd_same (by rw [mns_upd' hm]; exact rr1))
          exact ⟨S, _, d, r', s2.env, by rw [mns_upd' hm]; exact rv1, e4, fun σ' o' u' => q S σ' _ (s2.asg e4 o' u') (n1.aft.trans a2)⟩
    · cases e3⟩

/-! ### an own list or dict is told of from now on, and not written any more -/
theorem SOk.give {K : PySem.W.Frag} {O S : List Addr} {H : Hp} {σ : L2.St} {r : Env} {i : Nat} {q : Addr} {d : D} (o : SOk K T O S H σ r) (hi : r[i]? = some (.ow d)) (hs : σ[i]? = some (some (.ref q))) :
    ∃ S', SOk K T O S' H σ (r.set i (.va d)) ∧ Aft T O S H S' H ∧ Rp K (mns S' H) (.ref q) d := by
  obtain ⟨q', e1, hm, hO, ow⟩ := o.at hi
  rw [hs] at e1
  cases e1
  have sub : ∀ a ∈ S.filter (fun a => decide (a ≠ q)), a ∈ S := fun a ha => (List.mem_filter.mp ha).1
  have hq : q ∉ S.filter (fun a => decide (a ≠ q)) := fun z => by simpa using (List.mem_filter.mp z).2
  have l : Le (mns S H) (mns (S.filter fun a => decide (a ≠ q)) H) := le_sub sub
  have rq := ow.rp hq sub
  refine ⟨S.filter (fun a => decide (a ≠ q)), ⟨⟨o.env.tabs, fun a ha => o.env.live a (sub a ha), by rw [List.length_set]; exact o.env.len, fun j v sl h1 h2 => ?_, fun j k p' x y h1 h2 h3 h4 => ?_⟩, fun a ha => List.mem_filter.mpr ⟨o.sub a ha, by simpa using fun z : a = q => hO (by rw [← z]; exact ha)⟩, fun j x p' h1 h2 => ?_⟩, aft_sub o.env.tabs sub, rq⟩
  · by_cases hj : i = j
    · subst hj
      obtain ⟨h3, h4⟩ := List.getElem?_eq_some_iff.mp h2
      rw [List.getElem_set_self] at h4
      subst h4
      rw [hs] at h1
      cases h1
      exact ⟨_, rfl, rq⟩
    · rw [List.getElem?_set_ne hj] at h2
      have z := o.env.slot j v sl h1 h2
      cases sl with
      | no => exact z
      | va d => obtain ⟨x, z1, z2⟩ := z; exact ⟨x, z1, z2.le l⟩
      | ow d =>
        obtain ⟨p', z1, z2, z3⟩ := z
        have hne : p' ≠ q := fun z => by subst z z1; exact hj (o.env.inj i j _ _ _ hi h2 hs h1)
        refine ⟨p', z1, List.mem_filter.mpr ⟨z2, by simpa using hne⟩, ?_⟩
        cases z3 with
        | lst e r => exact .lst e (r.le l)
        | dk e r => exact .dk e (r.le l)
        | dt e r => exact .dt e (r.le l)
  · by_cases hj : i = j
    · subst hj
      obtain ⟨_, z⟩ := List.getElem?_eq_some_iff.mp h1
      rw [List.getElem_set_self] at z; cases z
    · by_cases hk : i = k
      · subst hk
        obtain ⟨_, z⟩ := List.getElem?_eq_some_iff.mp h2
        rw [List.getElem_set_self] at z; cases z
      · rw [List.getElem?_set_ne hj] at h1
        rw [List.getElem?_set_ne hk] at h2
        exact o.env.inj j k p' x y h1 h2 h3 h4
  · by_cases hj : i = j
    · subst hj
      obtain ⟨_, z⟩ := List.getElem?_eq_some_iff.mp h1
      rw [List.getElem_set_self] at z; cases z
    · rw [List.getElem?_set_ne hj] at h1
      exact o.own j x p' h1 h2
/-- y = x -/
theorem s_move (i j : Nat) {x y : Str} {p' : Pos} (hNd : X.N.Nodup) (hN : X.N[j]? = some x := by rfl) (hi : X.N[i]? = some y := by rfl) (hv : Vis X.env.scope x := by first | exact Or.inl rfl | exact Or.inr (Or.inl rfl) | exact Or.inr (Or.inr rfl)) (hx : Loc X.env.scope y := by first | exact Or.inl rfl | exact Or.inr rfl)
    (hd : (x == ("__debug__" : Str)) = false := by decide) (hcd : (x == ("__classdict__" : Str)) = false := by decide) (hs : swapsWith (.Name x p) (some (.Name y p')) pos.line X.env = pure false := by rfl)
    (hf : X.fn y = true ∨ X.env.scope.names.lookup y = some .local := by first | exact .inl rfl | exact .inr rfl) : DS X T (.Assign [.Name y p'] (.Name x p) pos) (sMove i j) := ⟨PS.imp (ps_set hNd hi hx (pe_var hN hv hd hcd) hs hf) fun Z σ H ⟨O, S, r, w, o, ef, q⟩ => by
  unfold sMove at ef
  split at ef
  · rename_i d hj
    cases ef
    obtain ⟨l, hl, hm, hO, ow⟩ := o.at hj
    obtain ⟨S', s', a', rq⟩ := o.give hj hl
    refine ⟨_, hl, ?_⟩
    refine q S' _ H ?_ a'
    exact s'.asg (t := .nm i) (d := d) rfl (s'.env.setVa rq) ⟨List.length_set, fun k hk => List.getElem?_set_ne fun z => hk (by simp [Tg.slots, z])⟩
  · cases ef⟩
/-- x.append(y) -/
theorem s_appMv (i j : Nat) {x y : Str} {p1 p2 p3 p4 : Pos} (hN : X.N[i]? = some x := by rfl) (hM : X.N[j]? = some y := by rfl) (hv : Vis X.env.scope x := by first | exact Or.inl rfl | exact Or.inr (Or.inl rfl) | exact Or.inr (Or.inr rfl)) (hd : (x == ("__debug__" : Str)) = false := by decide)
    (hcd : (x == ("__classdict__" : Str)) = false := by decide) (hv2 : Vis X.env.scope y := by first | exact Or.inl rfl | exact Or.inr (Or.inl rfl) | exact Or.inr (Or.inr rfl)) (hd2 : (y == ("__debug__" : Str)) = false := by decide)
    (hcd2 : (y == ("__classdict__" : Str)) = false := by decide) (hs1 : starEach [.Name y p4] X.env = (false, eval (.Name y p4) X.env) :: starEach [] X.env := by rfl)
    (hbase : attributeBase (.Name x p1) "append" X.env (eval (.Name x p1) X.env) = eval (.Name x p1) X.env := by rfl)
    (hfew : ((backTo p3 (starEach [.Name y p4] X.env)).all (fun x => !x.1) && (backToKw p3 (keywordEach [] X.env)).all (fun x => x.1.isSome) && decide ([Expr.Name y p4].length + ([] : List Keyword).length + (if ([] : List Keyword).isEmpty then 0 else 1) < 30)) = true := by rfl)
    (hline : (p2.endLine == p3.line) = true := by rfl) (hsw : swapsWith (.Call (.Attribute (.Name x p1) "append" p2) [.Name y p4] [] p3) none pos.line X.env = pure false := by rfl) :
    DS X T (.Expr (.Call (.Attribute (.Name x p1) "append" p2) [.Name y p4] [] p3) pos) (sAppMv i j) :=
  ⟨PS.imp (ps_expr (pe_bm PySem.F.plainAttrs_list PySem.F.slot_list_append PySem.F.type_list_append mt_append (pe_var hN hv hd hcd) (pa_cons (pe_var hM hv2 hd2 hcd2) pa_nil) hbase hfew hline hs1 (by rfl)) hsw) fun Z σ H ⟨O, S, r, w, o, ef, q⟩ => by
    simp only [sAppMv, Option.bind_eq_bind, Option.bind_eq_some_iff] at ef
    obtain ⟨d, e1, d2, e2, e3⟩ := ef
    replace e1 := own_some e1
    replace e2 := own_some e2
    split at e3
    · rename_i ds
      split at e3
      · rename_i hz
        cases e3
        obtain ⟨hz, hij⟩ := Bool.and_eq_true_iff.mp hz
        have hij : i ≠ j := of_decide_eq_true hij
        obtain ⟨l, hl, hm, hO, ow⟩ := o.at e2
        obtain ⟨m, hm2, _⟩ := o.at e1
        obtain ⟨S', s', a', rq⟩ := o.give e1 hm2
        have e2' : (r.set j (.va d))[i]? = some (.ow (.list ds)) := by rw [List.getElem?_set_ne (Ne.symm hij)]; exact e2
        obtain ⟨l', hl', hm', hO', ow'⟩ := s'.at e2'
        rw [hl] at hl'
        cases hl'
        obtain ⟨xs, hx, rr⟩ := ow'.list
        refine ⟨_, hl, .inl ⟨rfl, xs, .inl (.inl hx)⟩, _, hm2, l, xs, _, rfl, rfl, hx, by rw [rr.length]; exact lenOk_lt hz, ?_⟩
        obtain ⟨s2, a2⟩ := s'.write (v := .lst (xs ++ [_])) e2' hl hm' hO' hx (NT.lst _) (NT.lst _) (.lst upd_same (by rw [mns_upd' hm']; exact rr.append (.cons rq .nil)))
        exact q S' σ _ s2 (a'.trans a2)
      · cases e3
    · cases e3⟩
end

/-! ### defs -/
section
variable {P : Program} {w : World} {K : PySem.W.Frag} {mg : Str → Option Value} {base : Heap} {T : List Addr}
theorem FunD.okC {x qual : Str} {params : Arguments} {body : List Stmt} {scope : Scope} {dvs : List V} {kws : List (Str × V)} {f : Addr} {fd : FuncData} {CX : CXT} {N ps : List Str} {k : Nat} {sp : Sp} (F : FunD K x qual params body scope dvs kws f fd) (S : FnScope N ps scope) (len : ∀ vs H Q E, sp vs H Q E → vs.length = ps.length)
    (hbody : ∀ (A : Around) (outer : List PySem.Env) (s : Shared) (H : Hp) (vs : List V) (Q : VK) (E : XK), Room k (A.deeper (envOfC qual scope s.heap.objs.size f fd.code)) → sp vs H Q E →
      ∃ t, PSs (cxOf CX P w K mg base N qual scope f fd.code A outer s H E) body t ∧ t { nx := fun _ H' => Q .non H', rt := Q } (L2.start N vs) H) : FnOk P w K mg base CX (k + 1) f fd ps sp := by
  obtain ⟨oc, od, dV, kV, doc, pm, an, cdv, ct, osl, rfl, lk, hcd, _, _⟩ := F.ex
  exact fn_of lk hcd S len fun A outer s H vs Q E hr hsp => hbody A outer s H vs Q E hr hsp
theorem def_env {K : PySem.W.Frag} {O : List Addr} {H : Hp} {vs : List V} {ds : List D} {n : Nat} {N : List Str} (ht : Dm.Tabs T H) (lv : Live O H) (r : RpAll K (mns O H) vs ds) (hn : vs.length ≤ N.length) : SOk K T O O H (L2.start N vs) (ds.map .va ++ List.replicate (N.length - ds.length) .no) := by
  have hl := r.length
  refine ⟨⟨ht, lv, by simp [L2.start, hl], fun i v sl a b => ?_, fun i j p d e a => ?_⟩, fun a h => h, fun i d p a => ?_⟩
  · by_cases hi : i < ds.length
    · rw [List.getElem?_append_left (by simpa using hi), List.getElem?_map, List.getElem?_eq_getElem hi] at b
      simp at b
      subst b
      rw [L2.start, List.getElem?_append_left (by simp [hl, hi]), List.getElem?_map, List.getElem?_eq_getElem (by rw [hl]; exact hi)] at a
      simp at a
      subst a
      obtain ⟨u, h1, h2⟩ := r.get (List.getElem?_eq_getElem hi)
      rw [List.getElem?_eq_getElem (by rw [hl]; exact hi)] at h1
      cases h1
      exact ⟨_, rfl, h2⟩
    · rw [List.getElem?_append_right (by simpa using Nat.le_of_not_lt hi)] at b
      have := (List.getElem?_eq_some_iff.mp b).2
      simp at this
      subst this
      exact True.intro
  · exfalso
    by_cases hi : i < ds.length
    · rw [List.getElem?_append_left (by simpa using hi), List.getElem?_map, List.getElem?_eq_getElem hi] at a
      simp at a
    · rw [List.getElem?_append_right (by simpa using Nat.le_of_not_lt hi)] at a
      have := (List.getElem?_eq_some_iff.mp a).2
      simp at this
  · exfalso
    by_cases hi : i < ds.length
    · rw [List.getElem?_append_left (by simpa using hi), List.getElem?_map, List.getElem?_eq_getElem hi] at a
      simp at a
    · rw [List.getElem?_append_right (by simpa using Nat.le_of_not_lt hi)] at a
      have := (List.getElem?_eq_some_iff.mp a).2
      simp at this
theorem fn_ok {x : Str} {N ps : List Str} {params : Arguments} {body : List Stmt} {scope : Scope} {f : Addr} {fd : FuncData} {k : Nat} {F : Dm.S} (Fn : FunD K x x params body scope [] [] f fd) (S : FnScope N ps scope) (hn : ps.length ≤ N.length)
    (hb : ∀ (A : Around) (outer : List PySem.Env) (s : Shared) (H : Hp) (E : XK), Room k (A.deeper (envOfC x scope s.heap.objs.size f fd.code)) → DSs (cxOf CX0 P w K mg base N x scope f fd.code A outer s H E).nox T body F) :
    FnOk P w K mg base CX0 (k + 1) f fd ps (spD K T ps.length (dDef ps.length N.length F)) := by
  refine FunD.okC Fn S (fun vs H Q E ⟨O, ds, r, hl, _⟩ => hl) fun A outer s H vs Q E hr ⟨O, ds, r, hl, ht, lv, rp, ef, q⟩ => ?_
  refine ⟨_, (hb A outer s H E hr).ps.nox, ?_⟩
  have hl2 := rp.length
  unfold dDef at ef
  rw [if_pos (hl2.symm.trans hl)] at ef
  have so := def_env (K := K) (n := 0) (N := N) ht lv rp (by rw [hl]; exact hn)
  rw [← hl2, hl] at so
  split at ef
  · rename_i d hd
    cases ef
    exact ⟨O, O, _, _, so, hd, fun v S' H' a rv => q v H' a.nxt rv⟩
  · rename_i r' hd
    cases ef
    exact ⟨O, O, _, _, so, hd, fun S' σ' H' o' a => q .non H' a.nxt .non⟩
  · cases ef
theorem def_ok {x : Str} {N ps : List Str} {params : Arguments} {body : List Stmt} {scope : Scope} {f : Addr} {fd : FuncData} {k : Nat} {F : Dm.S} (Fn : FunD K x x params body scope [] [] f fd) (hm : mg x = some (.ref f)) (S : FnScope N ps scope) (hn : ps.length ≤ N.length) (hB : Binds K fd ps [])
    (hb : ∀ (A : Around) (outer : List PySem.Env) (s : Shared) (H : Hp) (E : XK), Room k (A.deeper (envOfC x scope s.heap.objs.size f fd.code)) → DSs (cxOf CX0 P w K mg base N x scope f fd.code A outer s H E).nox T body F) :
    DefOk P w K mg base T x (k + 1) ps.length (dDef ps.length N.length F) := ⟨f, fd, ps, fn_ok Fn S hn hb, hm, Fn.kp, hB⟩
/-- a def that is never called -/
theorem def_none {x : Str} {N ps : List Str} {params : Arguments} {body : List Stmt} {scope : Scope} {f : Addr} {fd : FuncData} {k n : Nat} (Fn : FunD K x x params body scope [] [] f fd) (hm : mg x = some (.ref f)) (hB : Binds K fd ps []) (hn : ps.length = n) :
    DefOk P w K mg base T x k n (fun _ => none) := ⟨f, fd, ps, ⟨fun vs H Q E ⟨O, ds, r, hl, _, _, _, ef, _⟩ => (by cases ef), fun A outer s H args us vs Q E _ _ _ _ ⟨O, ds, r, hl, _, _, _, ef, _⟩ => (by cases ef)⟩, hm, Fn.kp, hB⟩
end
end Dm
end

section
set_option Elab.async false
set_option linter.all false
set_option autoImplicit true
set_option maxRecDepth 100000
set_option maxHeartbeats 2000000
/-! DGen: all, any of a generator expression. -/
namespace Dm
open PySem PySem.Spec PyProof.Rows L2

theorem over_gen {A : Around} {elt : Expr} {gs : List Comprehension} {scope : Scope} {pos : Pos} {it acc : Value} {env : PySem.Env} : A.over (.compLoop (.GeneratorExp elt gs scope pos) 0 it acc env) [] = A.deeper env := by
  first
    | rfl
    | (obtain ⟨hd, d, fr, gd, u⟩ := A; simp [Around.over, Around.deeper, marksOver, frameCount, unitsOf, envsOf, guardsOf, pushEnvs, pushGuards, Code.envs, Code.env?, Code.isFrame, Code.guards, Code.isGuard, Code.weight, Code.frames, Code.isCreation, Code.isCaller, Code.cUnits])
/-- the context of a generator expression's frame: laid at C behind s, the generator's object go at a -/
abbrev gcx (X : Cx) (s : Shared) (H : Hp) (scope : Scope) (cl : List (Str × Addr)) (C : Addr) (code : Value) (fp : List Addr) (a : Addr) (go : Obj) : Cx :=
  { X with s_0 := s, H_0 := H, env := genEnv scope cl C code builtinsNs X.env, outer := X.stack, stack := genEnv scope cl C code builtinsNs X.env :: X.stack, ex := fp, fn := fun _ => false, pn := [(a, go)], A := X.A.in1.in1.deeper (genEnv scope cl C code builtinsNs X.env), xe := fun _ _ => False }
theorem room_gen {X : Cx} {k : Nat} (r : Room (k + 1) X.A) {env : PySem.Env} : Room k (X.A.in1.in1.deeper env) :=
  ⟨r.hd, by have := r.dp; show X.A.depth + 1 + 3 * k + 5 < _; omega, by have := r.un; show X.A.units + 1 + 1 + 3 + 16 * k + 200 < _; omega⟩
section
variable {X : Cx} {pins : List (Addr × Obj)} {σ : L2.St} {H : Hp} {s : Shared}
theorem gen_start {scope : Scope} {own : List (Str × Nat)} {fp : List Addr} {code : Value} {go : Obj} {h1 h2 : Heap} {gs : GenState} {tk : Nat} {m : Str → Option Value} (I : Inv X pins σ H s) (ok : BlkOk X.N X.env.scope scope own) (hN : X.N.Nodup)
    (hcell : ∀ y ∈ scope.names, y.2 ≠ .cell) (hfp : ∀ b ∈ fp, FpOk X pins H b ∧ b < s.heap.objs.size) (hgs : gs.bare = true) (hgo : ∀ v, go.data ≠ .cell v) (hns : h1.Ns s.heap.objs.size m) (hk1 : ∀ b o, s.heap.get? b = some o → h1.get? b = some o)
    (hz : h1.objs.size = s.heap.objs.size + 1) (e2 : h2 = h1.push go) (hgt : h2.get? h1.objs.size = some go) (hk2 : ∀ b o, h1.get? b = some o → h2.get? b = some o) :
    Inv (gcx X s H scope (cloFrom X.env.cells scope.names []) s.heap.objs.size code fp h1.objs.size go) [] (L2.wipe σ (own.map (·.2))) H { s with gens := s.gens.push gs, toks := tk, heap := h2 } := by
  have hk : ∀ b o, s.heap.get? b = some o → h2.get? b = some o := fun b o e => hk2 b o (hk1 b o e)
  have hfree : ∀ y ∈ scope.names, y.2 = .free → ∃ c, X.env.cells.lookup y.1 = some c := fun y hy e => by
    rcases ok.free y hy e with k | k
    · exact I.ok.has _ (.inl k)
    · exact I.ok.has _ (.inr k)
  have cm : ∀ {y c}, (y, c) ∈ cloFrom X.env.cells scope.names [] → X.env.cells.lookup y = some c ∧ c < s.heap.objs.size := fun {y c} hm => by
    rcases cloFrom_mem hm with hm | ⟨q1, rfl⟩
    · cases hm
    · obtain ⟨c, hc⟩ := hfree _ q1 rfl
      rw [hc]
      obtain ⟨w, z⟩ := I.cell _ _ hc
      exact ⟨rfl, z.lt⟩
  have cl : ∀ {y c}, (cloFrom X.env.cells scope.names []).lookup y = some c → X.env.cells.lookup y = some c ∧ c < s.heap.objs.size := fun {y c} e => cm (PySem.mem_of_lookup e)
  have look : ∀ {y}, scope.names.lookup y = some .free → ∃ c, (cloFrom X.env.cells scope.names []).lookup y = some c ∧ X.env.cells.lookup y = some c := fun {y} hl => by
    obtain ⟨c', e'⟩ := mem_lookup (cloFrom_has (cells := X.env.cells) (acc := []) (PySem.mem_of_lookup hl))
    exact ⟨c', e', (cl e').1⟩
  have okG : (gcx X s H scope (cloFrom X.env.cells scope.names []) s.heap.objs.size code fp h1.objs.size go).Ok := by
    refine ⟨I.ok.mod, ok.kind, I.ok.glob, rfl, Nat.le_refl _, fun x y c e1 e2 => I.ok.inj x y c (cl e1).1 (cl e2).1, fun y hy => ?_, fun y c z => (by cases z), I.ok.hd, ?_, .inr ⟨rfl, rfl⟩, fun b hb => ⟨Nat.ne_of_lt (hfp b hb).2, fun y c e z => ?_⟩, I.bs, Nat.le_trans I.ok.bsz I.sz, fun b o e hb => ?_, fun b hb z => ?_, I.stack, I.stkFree⟩
    · rcases hy with hy | hy
      · exact absurd rfl (hcell _ (PySem.mem_of_lookup (show scope.names.lookup y = some .cell from hy)))
      · obtain ⟨c, q, _⟩ := look (show scope.names.lookup y = some .free from hy)
        exact ⟨c, q⟩
    · show (X.A.in1.in1.deeper _).frames = _
      have := I.ok.frames
      show (X.A.frames).map _ = _
      rw [this]; rfl
    · exact (hfp b hb).1.2.2.2.2.1 y c (cl e).1 z
    · rcases (hfp b hb).1.2.2.2.1 with z | z
      · exact I.ok.noex b o e z
      · exact absurd (Nat.lt_of_lt_of_le (Heap.lt_size e) (Nat.le_trans I.ok.bsz z)) (Nat.lt_irrefl _)
    · rcases List.mem_cons.mp (I.stkSub b z) with z | z
      · exact (hfp b hb).1.2.1 z
      · exact (hfp b hb).1.2.2.1 z
  refine ⟨okG, rfl, AllBare.push I.bare hgs, Un.kept hk, ⟨m, ?_, fun i y av q1 q2 q3 => ?_⟩, fun y c e => ?_, I.hok.fresh (Nat.le_refl _), fun y c e => I.freeC y c (cl e).1, fun p hp => ?_, I.hok.kept hk, by rw [wipe_length]; exact I.len⟩
  · show h2.Ns _ m
    exact hns.keeps hk2
  · obtain ⟨q2, hne⟩ := wipe_some q2
    have hfr : scope.names.lookup y = some .free := by
      have no : ∀ k, scope.names.lookup y = some k → ¬ (k = .local ∨ k = .cell) := fun k e hh => by
        rcases ok.own _ (PySem.mem_of_lookup e) hh with e' | e'
        · obtain ⟨p, hp, hpy⟩ := List.mem_map.mp e'
          have e3 := ok.ix p hp
          have e4 : p.1 = y := hpy
          rw [e4] at e3
          exact hne (List.mem_map.mpr ⟨p, hp, nodup_ix hN e3 q1⟩)
        · exact e' (List.mem_of_getElem? q1)
      have q3 : Vis scope y := q3
      rcases q3 with q3 | q3 | q3
      · exact absurd (.inl rfl) (no _ q3)
      · exact absurd (.inr rfl) (no _ q3)
      · exact q3
    obtain ⟨mm, hn, hl⟩ := I.loc
    have hvis : Vis X.env.scope y := (ok.free _ (PySem.mem_of_lookup hfr) rfl).elim (fun k => .inr (.inl k)) (fun k => .inr (.inr k))
    obtain ⟨w, r, q⟩ := hl i y av q1 q2 hvis
    obtain ⟨c, c1, c2⟩ := look hfr
    refine ⟨w, r, .inr ⟨.inr hfr, c, c1, ?_⟩⟩
    rcases q with ⟨k, _⟩ | ⟨_, c', e', z⟩
    · have k : X.env.scope.names.lookup y = some .local := k
      rcases ok.free _ (PySem.mem_of_lookup hfr) rfl with k' | k' <;> rw [show X.env.scope.names.lookup y = _ from k'] at k <;> cases k
    · rw [c2] at e'; cases e'
      exact z.keeps hk
  · obtain ⟨w, z⟩ := I.cell y c (cl e).1
    exact ⟨w, z.keeps hk⟩
  · have hp : p ∈ [(h1.objs.size, go)] ++ [] := hp
    simp at hp
    subst hp
    have big : s.heap.objs.size ≤ h1.objs.size := by rw [hz]; exact Nat.le_succ _
    refine ⟨hgt, I.hok.fresh big, by show h1.objs.size ≠ s.heap.objs.size; rw [hz]; exact Nat.succ_ne_self _, fun z => ?_, hgo⟩
    have z : h1.objs.size ∈ frs X.stack := z
    rcases List.mem_cons.mp (I.stkSub _ z) with z | z
    · have := I.lt
      rw [← z] at this
      exact absurd (Nat.lt_of_lt_of_le this big) (Nat.lt_irrefl _)
    · exact I.nofs big z
end
end Dm
end

section
set_option Elab.async false
set_option linter.all false
set_option autoImplicit true
set_option maxRecDepth 100000
set_option maxHeartbeats 2000000
/-! DGen2: a generator expression's run. -/
namespace Dm
open PySem PySem.Spec PyProof.Rows L2
theorem inv_same {X : Cx} {pins : List (Addr × Obj)} {σ : L2.St} {H : Hp} {s s' : Shared} (I : Inv X pins σ H s) (h : s'.heap = s.heap) (ho : s'.os = s.os) (hb : AllBare s'.gens) : Inv X pins σ H s' := by
  obtain ⟨h', g', d', t', o'⟩ := s'
  cases (show h' = s.heap from h)
  cases (show o' = s.os from ho)
  exact ⟨I.ok, I.os, hb, I.base, I.loc, I.cell, I.free, I.freeC, I.pin, I.hok, I.len⟩
/-- what a generator expression's frame stands for: who made it, and what is asked -/
structure Gn where
  X : Cx
  T : List Addr
  S : List Addr
  r : Env
  σ : L2.St
  s : Shared
  H : Hp
  scope : Scope
  cl : List (Str × Addr)
  code : Value
  fp : List Addr
  a : Addr
  go : Obj
  gz : Nat
  own : List Nat
  tg : Tg
  ts : Dm.T
  el : E
  w : Bool
  res : Bool
  ds : List D
abbrev Gn.gx (g : Gn) : Cx := gcx g.X g.s g.H g.scope g.cl g.s.heap.objs.size g.code g.fp g.a g.go
abbrev Gn.A (g : Gn) : Around := g.X.A.in1.in1
/-- the frame between two turns -/
def Gn.Rest (g : Gn) (H : Hp) (s : Shared) : Prop := Inv g.gx [] (L2.wipe g.σ g.own) H s ∧ Nxt g.T g.H H ∧ g.gz ≤ s.gens.size
def Gn.E (g : Gn) (s : Shared) : Prop := g.res = g.w ∧ ∃ H, g.Rest H s
def Gn.R (g : Gn) : GenEnd := fun _ _ r s => r = .ok .next ∧ g.E s
def Gn.Y (g : Gn) : Protocol := fun _ _ v s kap => ∃ b, v = .bool b ∧ (∃ H, g.Rest H s) ∧ (b ≠ g.w → g.res = b) ∧ (b = g.w → ∀ s', s'.heap = s.heap → s'.os = s.os → AllBare s'.gens → g.gz ≤ s'.gens.size → kap (.send .none) s')
theorem qL_cons {w : Bool} {r : Env} {tg : Tg} {ts : Dm.T} {el : E} {x : D} {xs : List D} {b : Bool} (h : qL w r tg ts el (x :: xs) = some b) :
    ∃ r1 k, asg tg x r = some r1 ∧ ts r1 = some k ∧ if k = true then ∃ c, el r1 = some (.bool c) ∧ (c = w → qL w r tg ts el xs = some b) ∧ (c ≠ w → b = c) else qL w r tg ts el xs = some b := by
  simp only [qL, Option.bind_eq_bind, Option.bind_eq_some_iff] at h
  obtain ⟨r1, h1, k, h2, h3⟩ := h
  refine ⟨r1, k, h1, h2, ?_⟩
  cases k with
  | false => simpa using h3
  | true =>
    simp only [if_true, Option.bind_eq_some_iff] at h3 ⊢
    obtain ⟨y, h4, h5⟩ := h3
    split at h5
    · rename_i c
      refine ⟨c, h4, fun e => by rw [if_pos e] at h5; exact h5, fun e => by rw [if_neg e] at h5; exact (Option.some.inj h5).symm⟩
    · cases h5
/-- Seg's step, what is run being the frame's -/
theorem seg_in {α : Type} {M : Model} {A : Around} {R : GenEnd} {Y : Protocol} {n : Nat} {s0 : Shared} {elt : Expr} {gs : List Comprehension} {scope : Scope} {pos : Pos} {it acc : Value} {env : PySem.Env} {s : Shared} {β : Type} {m : Sem α} {K : α → Sem β} {K' : β → Sem PySem.Fin} {H' : Value → Sem PySem.Fin} {gd : Bool → Bool} {lv : List Value → List Value} {gz : Nat}
    (hz : gz ≤ s.gens.size) (h : wpAny M (A.deeper env) m (fun a s' => gz ≤ s'.gens.size → Seg M A R Y n s0 (.compLoop (.GeneratorExp elt gs scope pos) 0 it acc env) ((K a).wrap K' H' gd lv) [] s') (fun _ _ => False) s) :
    Seg M A R Y n s0 (.compLoop (.GeneratorExp elt gs scope pos) 0 it acc env) ((m >>= K).wrap K' H' gd lv) [] s := by
  refine seg_bind_wrap ?_
  rw [over_gen]
  exact GenW.wpAny_gsz hz (wpAny_mono h (fun _ _ z => z) fun _ _ z => z.elim)
section
variable {g : Gn} {tg elt iter : Expr} {ifs : List Expr} {pos : Pos} {kp : Kp} {fx : Fxs} {q : Bool} {J : It} {tn : Nat → Heap → Prop} {it : Addr}
theorem seg_turns (hc : g.X.calm = true) (hco : g.scope.isCoroutine = false) (hga : ∀ b ∈ g.fp, b ≠ g.a) (Tn : Turn g.X.prog g.X.w g.X.K tg J g.fp it tn) (eo : EnvOk g.X.K g.T g.S g.H g.σ g.r) (hk : ∀ x ∈ kp, RpQ g.X.K q g.S g.H x.1 x.2) (hfx : Fx fx g.S g.H) (hit : ItOk g.X.K g.T kp fx g.ds J)
    (hg : DG g.gx g.T tg g.tg) (ht : DTs g.gx g.T ifs g.ts) (he : DE g.gx g.T elt g.el) (hw : ∀ j ∈ g.tg.slots, j ∈ g.own) :
    ∀ (k i n : Nat) (s0 s : Shared) (H : Hp), k = g.ds.length - i → k ≤ n → g.Rest H s → tn i s.heap → (∀ b ∈ g.fp, H b = none) → qL g.w (wipeE g.r g.own) g.tg g.ts g.el (g.ds.drop i) = some g.res →
      Seg (model g.X.prog g.X.w) g.A g.R g.Y n s0 (.compLoop (.GeneratorExp elt [⟨tg, iter, ifs, 0⟩] g.scope pos) 0 (.ref it) .none g.gx.env) ((model g.X.prog g.X.w).den (.compLoop (.GeneratorExp elt [⟨tg, iter, ifs, 0⟩] g.scope pos) 0 (.ref it) .none g.gx.env)) [] s := by
  have stat : ∀ {σ' : L2.St} {H' : Hp} {s' : Shared}, Inv g.gx [] σ' H' s' → (∀ b ∈ g.fp, H' b = none) → ∀ b ∈ g.fp, FpOk g.gx [] H' b := fun {σ' H' s'} I' hn b hb =>
    ⟨hn b hb, (I'.ok.exf b hb).1, I'.ok.exfs b hb, .inl hb, fun x c e => (I'.ok.exf b hb).2 x c e, fun p hp' => by
      have z : p ∈ [(g.a, g.go)] ++ [] := hp'
      simp at z
      subst z
      exact fun z => hga b hb z.symm⟩
  intro k
  induction k with
  | zero =>
    intro i n s0 s H hki hkn ⟨I, nx, hz⟩ st hf hq
    have hi : g.ds.length ≤ i := by omega
    have eo' := eo.nxt nx
    obtain ⟨stp, _⟩ := hit g.S H eo'.tabs eo'.live (fun x hx => (RpQ.nxt nx (hk x hx)).look) (hfx.nxt nx)
    rw [List.drop_eq_nil_of_le hi] at hq
    simp only [qL, Option.some.injEq] at hq
    show Seg _ _ _ _ n s0 _ ((compTurn (.GeneratorExp elt [⟨tg, iter, ifs, 0⟩] g.scope pos) 0 (.ref it) .none g.gx.env).onRaise (leaving g.gx.env)) [] s
    rw [compTurn_gen, Sem.onRaise_eq_wrap]
    refine seg_in hz (wpAny_standAt fun _ => ?_)
    refine seg_in hz (thnF (Tn.done g.gx rfl rfl rfl hc i [] s _ H (fun _ _ => False) I (stat I hf) st (stp i hi)) fun r s1 ⟨hr, I1⟩ hz1 => ?_)
    subst hr
    exact seg_end (.ok .next) ⟨rfl, hq.symm, H, I1, nx, hz1⟩
  | succ k ih =>
    intro i n s0 s H hki hkn ⟨I, nx, hz⟩ st hf hq
    have hi : i < g.ds.length := by omega
    have eo' := eo.nxt nx
    have ew := eo'.wipe g.own
    obtain ⟨_, go⟩ := hit g.S H eo'.tabs eo'.live (fun x hx => (RpQ.nxt nx (hk x hx)).look) (hfx.nxt nx)
    obtain ⟨g1, g2⟩ := go i _ (List.getElem?_eq_getElem hi)
    rw [List.drop_eq_getElem_cons hi] at hq
    obtain ⟨r1, b, f1, f2, f3⟩ := qL_cons hq
    show Seg _ _ _ _ n s0 _ ((compTurn (.GeneratorExp elt [⟨tg, iter, ifs, 0⟩] g.scope pos) 0 (.ref it) .none g.gx.env).onRaise (leaving g.gx.env)) [] s
    rw [compTurn_gen, Sem.onRaise_eq_wrap]
    refine seg_in hz (wpAny_standAt fun _ => ?_)
    refine seg_in hz (thnF (Tn.item g.gx rfl rfl rfl hc i [] s _ H (fun _ _ => False) I (stat I hf) st g1) fun r s1 ⟨u, hr, hh⟩ hz1 => ?_)
    subst hr
    refine seg_in hz1 (thnF hh fun _ s2 ⟨x, H2, I2, ru, y2, st2, hf2⟩ hz2 => ?_)
    obtain ⟨n2, rx⟩ := g2 x H2 y2
    have J2 := I2.pinned (stat I2 hf2) (Tn.obj _ _ st2)
    refine seg_in hz2 (thnF (hg.pg.run _ s2 _ H2 x u (fun σ' H' => H' = H2 ∧ EnvOk g.X.K g.T g.S H2 σ' r1 ∧ L2.wipe σ' g.own = L2.wipe g.σ g.own) J2 ru ⟨g.S, _, _, r1, ew.nxt n2, rx, f1, fun σ' o' u' => ⟨rfl, o', u'.wipe hw⟩⟩) fun _ s3 ⟨σ3, H3, I3, e3, o3, w3⟩ hz3 => ?_)
    subst e3
    refine seg_in hz3 (thnF (ht.pt.run _ s3 σ3 H3 (fun b' H' => b' = b ∧ Nxt g.T H3 H') I3 ⟨g.S, r1, b, o3, f2, fun H' n' => ⟨rfl, n'⟩⟩) fun b' s4 ⟨H4, I4, e4, n4⟩ hz4 => ?_)
    subst e4
    have fin : ∀ {s' : Shared} {H' : Hp}, Inv g.gx ([] ++ pinsAt g.fp s2.heap) σ3 H' s' → Inv g.gx [] (L2.wipe g.σ g.own) H' s' ∧ tn (i + 1) s'.heap ∧ ∀ b ∈ g.fp, H' b = none := fun {s' H'} I' => by
      have pin' : ∀ b ∈ g.fp, ∀ o, s2.heap.get? b = some o → s'.heap.get? b = some o ∧ H' b = none := fun b hb o e =>
        have z := I'.pin (b, o) (List.mem_append_right _ (List.mem_append_right _ (mem_pinsAt hb e)))
        ⟨z.1, z.2.1⟩
      refine ⟨(I'.unpinned (pins := [])).weak (by rw [← w3, wipe_length]) fun j v e => ?_, Tn.keep _ _ _ st2 fun b hb o e => (pin' b hb o e).1, fun b hb => ?_⟩
      · rw [← w3] at e
        exact (wipe_some e).1
      · obtain ⟨o, e, _⟩ := Tn.obj _ _ st2 b hb
        exact (pin' b hb o e).2
    cases b' with
    | false =>
      rw [if_neg Bool.false_ne_true] at f3
      obtain ⟨I5, st5, hf5⟩ := fin I4
      exact seg_again rfl (ih (i + 1) n s0 s4 H4 (by omega) (by omega) ⟨I5, nx.trans (n2.trans n4), hz4⟩ st5 hf5 f3)
    | true =>
      rw [if_pos rfl] at f3
      obtain ⟨c, f4, f5, f6⟩ := f3
      obtain ⟨n, rfl⟩ : ∃ m, n = m + 1 := ⟨n - 1, by omega⟩
      simp only [if_true]
      have hy : ∀ v, yieldOut g.gx.env v = yieldValue v := fun v => by
        show (if g.scope.isCoroutine = true then _ else _) = _
        rw [hco, if_neg Bool.false_ne_true]
      simp only [hy]
      rw [Sem.bind_eq_wrap', Sem.bind_eq_wrap', Sem.wrap_wrap, Sem.wrap_wrap]
      refine seg_wrap ?_
      rw [over_gen]
      refine GenW.wpAny_gsz hz4 (wpAny_mono (he.pe.run _ s4 σ3 H4 (fun v H' => v = .bl c ∧ Nxt g.T H4 H') I4 ⟨g.S, r1, _, o3.nxt n4, f4, fun v H' n' rv => ⟨by cases rv; rfl, n'⟩⟩) (fun y s5 ⟨yv, H5, I5, ry, e5, n5⟩ hz5 => ?_) fun _ _ z => z.elim)
      subst e5
      obtain ⟨I6, st6, hf6⟩ := fin I5
      have nn : Nxt g.T g.H H5 := nx.trans (n2.trans (n4.trans n5))
      refine seg_at (seg_yield rfl rfl rfl ⟨c, ry, ⟨H5, I6, nn, hz5⟩, f6, fun ec s6 eh eos hb hz6 => ?_⟩)
      exact seg_again rfl (ih (i + 1) n s6 s6 H5 (by omega) (by omega) ⟨inv_same I6 eh eos hb, nn, hz6⟩ (by rw [eh]; exact st6) hf6 (f5 ec))
theorem seg_begin (hc : g.X.calm = true) (hco : g.scope.isCoroutine = false) (hga : ∀ b ∈ g.fp, b ≠ g.a) (Tn : Turn g.X.prog g.X.w g.X.K tg J g.fp it tn) (eo : EnvOk g.X.K g.T g.S g.H g.σ g.r) (hk : ∀ x ∈ kp, RpQ g.X.K q g.S g.H x.1 x.2) (hfx : Fx fx g.S g.H) (hit : ItOk g.X.K g.T kp fx g.ds J)
    (hg : DG g.gx g.T tg g.tg) (ht : DTs g.gx g.T ifs g.ts) (he : DE g.gx g.T elt g.el) (hw : ∀ j ∈ g.tg.slots, j ∈ g.own) (s0 s : Shared) (H : Hp) (hr : g.Rest H s) (st : tn 0 s.heap) (hf : ∀ b ∈ g.fp, H b = none) (hq : qL g.w (wipeE g.r g.own) g.tg g.ts g.el g.ds = some g.res) :
    Seg (model g.X.prog g.X.w) g.A g.R g.Y g.ds.length s0 (.compStart (.GeneratorExp elt [⟨tg, iter, ifs, 0⟩] g.scope pos) 0 (.ref it) .none g.gx.env) ((model g.X.prog g.X.w).den (.compStart (.GeneratorExp elt [⟨tg, iter, ifs, 0⟩] g.scope pos) 0 (.ref it) .none g.gx.env)) [] s := by
  have loop := seg_turns (iter := iter) (pos := pos) hc hco hga Tn eo hk hfx hit hg ht he hw g.ds.length 0 g.ds.length s0 s H rfl (Nat.le_refl _) hr st hf (by simpa using hq)
  show Seg _ _ _ _ _ s0 _ ((compStart (.GeneratorExp elt [⟨tg, iter, ifs, 0⟩] g.scope pos) 0 (.ref it) .none g.gx.env).onRaise (leaving g.gx.env)) [] s
  unfold compStart
  rw [Sem.onRaise_eq_wrap]
  show Seg _ _ _ _ _ s0 _ ((ask >>= _).wrap _ _ _ _) [] s
  refine seg_bind_wrap (wpAny_askSetting ?_)
  split
  · exact seg_again rfl loop
  · first
      | exact seg_bind_wrap (wpAny_rule (seg_bind_wrap (wpAny_standAt (seg_bind_wrap (Tn.self _ 0 s _ _ st (seg_again rfl loop))))))
      | (refine seg_bind_wrap (wpAny_rule ?_); show Seg _ _ _ _ _ s0 _ ((standAt iter.pos >>= _).wrap _ _ _ _) [] s; exact seg_bind_wrap (wpAny_standAt (seg_bind_wrap (Tn.self _ 0 s _ _ st (seg_again rfl loop)))))
end
end Dm
end

section
set_option Elab.async false
set_option linter.all false
set_option autoImplicit true
set_option maxRecDepth 100000
set_option maxHeartbeats 2000000
/-! DGen3: all, any ask a generator expression. -/
namespace Dm
open PySem PySem.Spec PyProof.Rows L2
section
variable {g : Gn} {gi : Nat}
/-- the generator sleeps, at most n times it hands out something -/
def Gn.Sleeps (g : Gn) (gi n : Nat) (s : Shared) : Prop :=
  (∃ H, g.Rest H s) ∧ ∃ st, s.gens[gi]? = some st ∧ ∀ s', s'.heap = s.heap → s'.os = s.os → AllBare s'.gens → g.gz ≤ s'.gens.size → st.Goes (model g.X.prog g.X.w) g.A g.R g.Y n (.send .none) s'
/-- back at the maker's -/
def Gn.Done (g : Gn) (pins : List (Addr × Obj)) (s : Shared) : Prop := ∃ H, Inv g.X pins g.σ H s ∧ Nxt g.T g.H H
theorem Gn.done {pins : List (Addr × Obj)} {H : Hp} {s s' : Shared} (I : Inv g.X pins g.σ g.H g.s) (hf : ∀ b ∈ g.fp, FpOk g.X pins g.H b) (h : g.Rest H s) (hk : ∀ b o, s.heap.get? b = some o → s'.heap.get? b = some o) (ho : s'.os = s.os) (hb : AllBare s'.gens) : g.Done pins s' := by
  obtain ⟨J, nx, _⟩ := h
  refine ⟨H, I.call' (ch := g.fp) (ho.trans J.os) (Un.trans J.base (Un.kept hk)) (J.hok.kept hk) hb fun b hb => ?_, nx⟩
  obtain ⟨f0, f1, f2, f3, f4, f5⟩ := hf b hb
  exact ⟨f3, f1, f4, f5⟩
theorem gen_next {pins : List (Addr × Obj)} {n : Nat} {s : Shared} {E : Value → Shared → Prop} (hh : g.X.A.handled = none) (hd : g.X.A.depth < recursionLimit) (I : Inv g.X pins g.σ g.H g.s) (hf : ∀ b ∈ g.fp, FpOk g.X pins g.H b) (hgi : gi < g.gz)
    (hgo : ∃ nm qn, g.go.cls = .type "generator" ∧ g.go.data = .fields #[.int gi 0, nm, qn] ∧ g.go.slots = #[]) (h : g.Sleeps gi n s) :
    wpAny (model g.X.prog g.X.w) g.X.A.in1 (pyNext (.ref g.a)) (fun r s' => match r with
      | none => g.res = g.w ∧ g.Done pins s'
      | some v => ∃ b, v = .bool b ∧ (b ≠ g.w → g.res = b ∧ g.Done pins s') ∧ (b = g.w → ∃ m, m < n ∧ g.Sleeps gi m s')) E s := by
  obtain ⟨⟨H, J, nx, hz⟩, st, hst, go⟩ := h
  obtain ⟨nm, qn, q1, q2, q3⟩ := hgo
  have isg : s.heap.IsGen g.a gi := ⟨g.go, nm, qn, (J.pin (g.a, g.go) (List.mem_append_left _ List.mem_cons_self)).1, q1, q2, q3⟩
  have b0 : AllBare (s.setGen gi .running).gens := allBare_setGen J.bare rfl
  refine wpAny_pyNext_genexpQ (P := fun _ _ s1 => g.E s1) (Y := g.Y) (n := n) hh J.nolimit hd isg hst (go _ rfl rfl b0 (by rw [GenW.setGen_size]; exact hz)) (fun v s1 st' hb hv => ?_) fun s1 ⟨er, H1, r1⟩ h' hk => ?_
  · obtain ⟨b, ev, ⟨H1, J1, nx1, hz1⟩, hne, hkap⟩ := hv
    have gsz : gi < s1.gens.size := Nat.lt_of_lt_of_le hgi hz1
    refine ⟨b, ev, fun e => ⟨hne e, Gn.done I hf ⟨J1, nx1, hz1⟩ (fun _ _ q => q) rfl (allBare_setGen J1.bare hb)⟩, fun e => ?_⟩
    have kap := hkap e
    cases n with
    | zero => exact (kap s1 rfl rfl J1.bare hz1).elim
    | succ m => exact ⟨m, Nat.lt_succ_self _, ⟨H1, inv_same J1 rfl rfl (allBare_setGen J1.bare hb), nx1, by rw [GenW.setGen_size]; exact hz1⟩, st', setGen_at gsz, fun s' e1 e2 e3 e4 => kap s' e1 e2 e3 e4⟩
  · exact ⟨er, Gn.done I hf r1 (fun b o e => hk b o e) rfl (allBare_setGen r1.1.bare rfl)⟩
theorem all_loop {pins : List (Addr × Obj)} {R : Result → Shared → Prop} (hw : g.w = true) (hh : g.X.A.handled = none) (hd : g.X.A.depth < recursionLimit) (I : Inv g.X pins g.σ g.H g.s) (hf : ∀ b ∈ g.fp, FpOk g.X pins g.H b) (hgi : gi < g.gz)
    (hgo : ∃ nm qn, g.go.cls = .type "generator" ∧ g.go.data = .fields #[.int gi 0, nm, qn] ∧ g.go.slots = #[]) (hR : ∀ s', g.Done pins s' → R (.ok (.ret (.bool g.res))) s') :
    ∀ (n : Nat) (s : Shared), g.Sleeps gi n s → codeAny (model g.X.prog g.X.w) g.X.A (.builtin "all.loop" ⟨[.ref g.a], []⟩) R s := by
  intro n
  induction n using Nat.strongRecOn with
  | _ n ih =>
    intro s h
    refine codeAny_builtin F.entry_all_loop ?_
    rw [Around.under_plainId F.plain_all_loop _]
    show wpAny _ g.X.A.in1 (pyNext (.ref g.a) >>= _) _ _ s
    refine wpAny_bind (thn (gen_next hh hd I hf hgi hgo h) fun r s1 h1 => ?_)
    cases r with
    | none =>
      obtain ⟨e, d⟩ := h1
      have z := hR s1 d
      rw [e, hw] at z
      exact wpAny_bind (wpAny_rule (wpAny_pure z))
    | some v =>
      obtain ⟨b, rfl, h2, h3⟩ := h1
      refine wpAny_bind (wpAny_holding (wpAny_truthy_bool ?_))
      refine wpAny_bind (wpAny_letGo ?_)
      cases b with
      | true =>
        simp only [if_true]
        obtain ⟨m, hm, hs⟩ := h3 hw.symm
        exact wpAny_pure ⟨plainId_quiet F.plain_all_loop _, ih m hm s1 hs⟩
      | false =>
        simp only [Bool.false_eq_true, if_false]
        obtain ⟨e, d⟩ := h2 (by rw [hw]; exact Bool.false_ne_true)
        have z := hR s1 d
        rw [e] at z
        exact wpAny_bind (wpAny_rule (wpAny_pure z))
theorem any_loop {pins : List (Addr × Obj)} {R : Result → Shared → Prop} (hw : g.w = false) (hh : g.X.A.handled = none) (hd : g.X.A.depth < recursionLimit) (I : Inv g.X pins g.σ g.H g.s) (hf : ∀ b ∈ g.fp, FpOk g.X pins g.H b) (hgi : gi < g.gz)
    (hgo : ∃ nm qn, g.go.cls = .type "generator" ∧ g.go.data = .fields #[.int gi 0, nm, qn] ∧ g.go.slots = #[]) (hR : ∀ s', g.Done pins s' → R (.ok (.ret (.bool g.res))) s') :
    ∀ (n : Nat) (s : Shared), g.Sleeps gi n s → codeAny (model g.X.prog g.X.w) g.X.A (.builtin "any.loop" ⟨[.ref g.a], []⟩) R s := by
  intro n
  induction n using Nat.strongRecOn with
  | _ n ih =>
    intro s h
    refine codeAny_builtin F.entry_any_loop ?_
    rw [Around.under_plainId F.plain_any_loop _]
    show wpAny _ g.X.A.in1 (pyNext (.ref g.a) >>= _) _ _ s
    refine wpAny_bind (thn (gen_next hh hd I hf hgi hgo h) fun r s1 h1 => ?_)
    cases r with
    | none =>
      obtain ⟨e, d⟩ := h1
      have z := hR s1 d
      rw [e, hw] at z
      exact wpAny_bind (wpAny_rule (wpAny_pure z))
    | some v =>
      obtain ⟨b, rfl, h2, h3⟩ := h1
      refine wpAny_bind (wpAny_holding (wpAny_truthy_bool ?_))
      refine wpAny_bind (wpAny_letGo ?_)
      cases b with
      | false =>
        simp only [Bool.false_eq_true, if_false]
        obtain ⟨m, hm, hs⟩ := h3 hw.symm
        exact wpAny_pure ⟨plainId_quiet F.plain_any_loop _, ih m hm s1 hs⟩
      | true =>
        simp only [if_true]
        obtain ⟨e, d⟩ := h2 (by rw [hw]; decide)
        have z := hR s1 d
        rw [e] at z
        exact wpAny_bind (wpAny_rule (wpAny_pure z))
end
end Dm
end

section
set_option Elab.async false
set_option linter.all false
set_option autoImplicit true
set_option maxRecDepth 100000
set_option maxHeartbeats 2000000
/-! DGen4: a generator expression is made; all, any of it. -/
namespace Dm
open PySem PySem.Spec PyProof.Rows L2
/-- its scope: names of its own, what is walked at «.0», names captured -/
structure GenSc (scope : Scope) : Prop where
  co : scope.isCoroutine = false
  cell : ∀ y ∈ scope.names, y.2 ≠ .cell
  dot : scope.names.lookup (".0" : Str) = some NameKind.local
def genScB (scope : Scope) : Bool := !scope.isCoroutine && (scope.names.all fun y => !decide (y.2 = .cell)) && decide (scope.names.lookup (".0" : Str) = some NameKind.local)
theorem genSc_by {scope : Scope} (h : genScB scope = true) : GenSc scope := by
  unfold genScB at h
  simp only [Bool.and_eq_true, Bool.not_eq_true', decide_eq_true_eq, List.all_eq_true, decide_eq_false_iff_not] at h
  exact ⟨h.1.1, h.1.2, h.2⟩
/-- the table of P is longer -/
theorem nxt_tab {T : List Addr} {H : Hp} {P : Addr} {ps ps' : Array Value} (t : Dm.Tabs T H) (hP : H P = some (.tbl ps)) (ht : TriplesOk ps'.toList) : Nxt T H (upd H P (.tbl ps')) := by
  refine ⟨fun b o e nt => ?_, fun Q hQ => ?_, fun b qs e => ?_⟩
  · rw [upd_ne]; exact e
    rintro rfl
    rw [hP] at e; cases e; exact nt _ rfl
  · by_cases h : Q = P
    · subst h; exact ⟨ps', upd_same, ht⟩
    · obtain ⟨qs, e1, e2⟩ := t Q hQ
      exact ⟨qs, (upd_ne h).trans e1, e2⟩
  · by_cases h : b = P
    · subst h; exact ⟨ps', upd_same⟩
    · exact ⟨qs, (upd_ne h).trans e⟩
section
variable {X : Cx} {T : List Addr} {pins : List (Addr × Obj)} {σ : L2.St} {H : Hp} {s : Shared} {elt tg iter : Expr} {ifs : List Expr} {scope : Scope} {own : List (Str × Nat)} {q : Bool} {it : I} {t : Tg} {ts : Dm.T} {el : E} {gpos pos p : Pos} {c P : Addr} {k : Nat}
theorem gen_make {w : Bool} {S : List Addr} {r : Env} {ds : List D} {res : Bool} {Q' : Value → Shared → Prop} (hr : Room k X.A) (hPT : P ∈ T) (TB : LamX.TabB X.base X.mg c P) (hcode : X.env.code = .ref c) (Sc : GenSc scope) (hc : X.calm = true) (hN : X.N.Nodup) (hi : DI X T q tg iter it) (ok : BlkOk X.N X.env.scope scope own)
    (hg : ∀ s H cl C code fp a go, DG (gcx X s H scope cl C code fp a go) T tg t) (ht : ∀ s H cl C code fp a go, DTs (gcx X s H scope cl C code fp a go) T ifs ts) (he : ∀ s H cl C code fp a go, DE (gcx X s H scope cl C code fp a go) T elt el)
    (hw : ∀ j ∈ t.slots, j ∈ own.map (·.2)) (hs : ∀ v, genFold iter X.env v = pure v) (I : Inv X pins σ H s) (eo : EnvOk X.K T S H σ r) (ei : it r = some ds) (eq : qL w (wipeE r (own.map (·.2))) t ts el ds = some res)
    (hQ : ∀ (g : Gn) (gi : Nat) (s' : Shared), g.X = X → g.σ = σ → g.T = T → g.w = w → g.res = res → Inv g.X pins g.σ g.H g.s → (∀ b ∈ g.fp, FpOk g.X pins g.H b) → gi < g.gz → (∃ nm qn, g.go.cls = .type "generator" ∧ g.go.data = .fields #[.int gi 0, nm, qn] ∧ g.go.slots = #[]) →
      Nxt T H g.H → g.Sleeps gi g.ds.length s' → s'.heap.IsGen g.a gi → Q' (.ref g.a) s') :
    wpAny (model X.prog X.w) X.A (eval (.GeneratorExp elt [⟨tg, iter, ifs, 0⟩] scope gpos) X.env) Q' X.xe s := by
  have hfree : ∀ y ∈ scope.names, y.2 = .free → ∃ c, X.env.cells.lookup y.1 = some c := fun y hy e => by
    rcases ok.free y hy e with k | k
    · exact I.ok.has _ (.inl k)
    · exact I.ok.has _ (.inr k)
  refine wpAny_GeneratorExp_make Sc.co (closure_ok hfree) Sc.cell Sc.dot ok.kind (by have := hr.dp; omega) ?_ hs
  refine thn (hi.pi.run pins s σ H (fun J H1 => ∃ kp fx, Nxt T H H1 ∧ (∀ x ∈ kp, RpQ X.K q S H1 x.1 x.2) ∧ Fx fx S H1 ∧ ItOk X.K T kp fx ds J) I ⟨S, r, ds, eo, ei, fun J H' kp fx n1 hk hfx hit => ⟨kp, fx, n1, hk, hfx, hit⟩⟩) fun xv s1 hx => thn hx fun itv s2 ⟨ia, fp, tn, J, H2, e2, I2, Tn, st2, hf2, kp, fx, n2, hk, hfx, hit⟩ => ?_
  subst e2
  obtain ⟨ps, hP, htr⟩ := n2.tabs P hPT
  have hPs : s2.heap.get? P = some { cls := .none, data := .fields ps } := I2.hok P _ hP
  have cd : PySem.W.CodeHd s2.heap c P := TB.code.keeps fun b u e => I2.bk b u e
  have nfP : ∀ b, b ∈ fp → b ≠ P := fun b hb z => by
    have := (hf2 b hb).1
    rw [z, hP] at this; cases this
  have cont : ∀ (code : Value) (h3 : Heap) (tk : Nat) (more : Array Value), Heap.ExtBut P s2.heap h3 → s2.heap.objs.size ≤ h3.objs.size → h3.get? P = some { cls := .none, data := .fields (ps ++ more) } → TriplesOk (ps ++ more).toList →
      wpAny (model X.prog X.w) X.A (builtinsFor X.env.globals X.env.builtins) (fun bi s₄ => ∀ h', h'.Ns s₄.heap.objs.size (fun y => if y = ".0" then some (Value.ref ia) else none) → Heap.SameBut s₄.heap.objs.size (s₄.heap.push { cls := .type "frame", data := .dict #[] }) h' →
          Q' (.ref h'.objs.size) { s₄ with
            gens := s₄.gens.push (.fresh (.compStart (.GeneratorExp elt [⟨tg, iter, ifs, 0⟩] scope gpos) 0 (.ref ia) .none (genEnv scope (cloFrom X.env.cells scope.names []) s₄.heap.objs.size code bi X.env))), toks := s₄.toks + 1 + 1 + 1,
            heap := h'.push { cls := .type "generator", data := .fields #[.int s₄.gens.size 0, .str "<genexpr>" (s₄.toks + 1), .str (X.env.qual ++ "<genexpr>") (s₄.toks + 1 + 1)] } }) X.xe { s2 with heap := h3, toks := tk } := by
    intro code h3 tk more hx hsz hP3 ht3
    obtain ⟨bm, ob, b1, b2, b3, b4, b5, b6, b7, b8⟩ := TB.bm
    have keep3 : ∀ b u, b ≠ P → s2.heap.get? b = some u → h3.get? b = some u := fun b u hb e => hx b u hb e
    refine wpAny_builtinsFor (m := X.mg) (by rw [I2.ok.glob]; exact ((I2.mod.glob.keeps I2.bk)).extBut hx TB.gP) b1 b2 (keep3 _ _ b4 (I2.bk _ _ b5)) b6 b7 b8 ?_
    intro h' hns hsb
    have I3 := GxR.inv_tab (more := more) (h' := h3) (g' := s2.gens) (d' := s2.drawn) (t' := tk) I2 hP (fun b u hb e => keep3 b u hb e) hP3 I2.bare
    have n3 : Nxt T H2 (upd H2 P (.tbl (ps ++ more))) := nxt_tab n2.tabs hP ht3
    have hf3 : ∀ b ∈ fp, FpOk X pins (upd H2 P (.tbl (ps ++ more))) b := fun b hb => ⟨(upd_ne (nfP b hb)).trans (hf2 b hb).1, (hf2 b hb).2⟩
    have fz : ∀ b ∈ fp, b < h3.objs.size := fun b hb => by
      obtain ⟨o, e, _⟩ := Tn.obj _ _ st2 b hb
      exact Nat.lt_of_lt_of_le (Heap.lt_size e) hsz
    have hz' : h'.objs.size = h3.objs.size + 1 := by rw [hsb.1, Heap.size_push]
    have k1 : ∀ b o, h3.get? b = some o → h'.get? b = some o := fun b o e => hsb.extBut b o (Nat.ne_of_lt (Heap.lt_size e)) (Heap.get?_push_of_some _ e)
    have J5 := gen_start (own := own) (code := code) (tk := tk + 1 + 1 + 1) (gs := .fresh (.compStart (.GeneratorExp elt [⟨tg, iter, ifs, 0⟩] scope gpos) 0 (.ref ia) .none (genEnv scope (cloFrom X.env.cells scope.names []) h3.objs.size code builtinsNs X.env)))
      (go := { cls := .type "generator", data := .fields #[.int s2.gens.size 0, .str "<genexpr>" (tk + 1), .str (X.env.qual ++ "<genexpr>") (tk + 1 + 1)] }) I3 ok hN Sc.cell (fun b hb => ⟨hf3 b hb, fz b hb⟩) rfl (fun v z => by cases z) hns k1 hz' rfl (Heap.get?_push_size _ rfl) (fun b o e => Heap.get?_push_of_some _ e)
    have eo3 := (eo.nxt n2).nxt n3
    let g : Gn := ⟨X, T, S, r, σ, { s2 with heap := h3, toks := tk }, upd H2 P (.tbl (ps ++ more)), scope, cloFrom X.env.cells scope.names [], code, fp, h'.objs.size, { cls := .type "generator", data := .fields #[.int s2.gens.size 0, .str "<genexpr>" (tk + 1), .str (X.env.qual ++ "<genexpr>") (tk + 1 + 1)] }, s2.gens.size + 1, own.map (·.2), t, ts, el, w, res, ds⟩
    have st5 : tn 0 (h'.push g.go) := Tn.keep _ _ _ st2 fun b hb o e => Heap.get?_push_of_some _ (k1 b o (keep3 b o (nfP b hb) e))
    refine hQ g s2.gens.size _ rfl rfl rfl rfl rfl I3 hf3 (Nat.lt_succ_self _) ⟨_, _, rfl, rfl, rfl⟩ (n2.trans n3) ⟨⟨_, J5, Nxt.refl n3.tabs, by show s2.gens.size + 1 ≤ (s2.gens.push _).size; rw [Array.size_push]; exact Nat.le_refl _⟩, _, Array.getElem?_push_size .., fun s' e1 e2 e3 e4 => ⟨rfl, ?_⟩⟩ ⟨_, _, _, Heap.get?_push_size _ rfl, rfl, rfl, rfl⟩
    refine seg_begin (g := g) (kp := kp) (fx := fx) (q := q) (J := J) (tn := tn) hc Sc.co (fun b hb z => ?_) Tn eo3 (fun x hx => RpQ.nxt n3 (hk x hx)) (hfx.nxt n3) hit (hg ..) (ht ..) (he ..) hw s' s' _ ⟨inv_same J5 e1 e2 e3, Nxt.refl n3.tabs, e4⟩ (by rw [e1]; exact st5) (fun b hb => (hf3 b hb).1) eq
    have := fz b hb
    rw [z] at this
    exact absurd this (by show ¬ h'.objs.size < h3.objs.size; omega)
  refine ⟨I2.nolimit, ?_⟩
  cases hf : codeAmong gpos ps.toList with
  | none =>
    refine wpAny_genexprCodeX hcode (cd.code hPs htr) (cd.tab hPs) hf fun c' h' tk hx hge hlt hco' _ htab' _ => ?_
    obtain ⟨o1, vs, f1, tf, fl, tg', inF, tx, tt, op, _, _, _, _, _, _, _, _, _, htr', _⟩ := hco'
    exact cont _ h' tk _ hx (Nat.le_trans hge (Nat.le_of_lt hlt)) htab'.2 htr'
  | some cv =>
    refine wpAny_genexprCode_hit hcode (cd.code hPs htr) hf ?_
    exact cont cv s2.heap s2.toks #[] (Heap.ExtBut.refl _ _) (Nat.le_refl _) (by rw [Array.append_empty]; exact hPs) (by rw [Array.append_empty]; exact htr)
theorem e_all (hr : Room k X.A) (hm : X.mg "all" = none) (hPT : P ∈ T) (TB : LamX.TabB X.base X.mg c P) (hcode : X.env.code = .ref c) (Sc : GenSc scope) (hc : X.calm = true) (hN : X.N.Nodup) (hi : DI X T q tg iter it) (ok : BlkOk X.N X.env.scope scope own)
    (hg : ∀ s H cl C code fp a go, DG (gcx X s H scope cl C code fp a go) T tg t) (ht : ∀ s H cl C code fp a go, DTs (gcx X s H scope cl C code fp a go) T ifs ts) (he : ∀ s H cl C code fp a go, DE (gcx X s H scope cl C code fp a go) T elt el)
    (hw : ∀ j ∈ t.slots, j ∈ own.map (·.2) := by decide) (hs : ∀ v, genFold iter X.env v = pure v := by intro _; rfl) (hgl : Gl X "all" := by rfl)
    (hst : starEach [.GeneratorExp elt [⟨tg, iter, ifs, 0⟩] scope gpos] X.env = (false, eval (.GeneratorExp elt [⟨tg, iter, ifs, 0⟩] scope gpos) X.env) :: starEach [] X.env := by rfl) :
    DE X T (.Call (.Name "all" p) [.GeneratorExp elt [⟨tg, iter, ifs, 0⟩] scope gpos] [] pos) (allE (own.map (·.2)) it t ts el) := by
  refine ⟨⟨fun pins s σ H Q I ⟨S, r, d, eo, ef, k⟩ => ?_⟩⟩
  simp only [allE, Option.bind_eq_bind, Option.bind_eq_some_iff] at ef
  obtain ⟨ds, e1, res, e2, e3⟩ := ef
  cases e3
  refine wpAny_Call_Name_kw (ld_blt I hgl hm (show bootBuiltins "all" = some (.builtin "all") by decide +kernel) ?_)
  refine PyProof.Rows.callWith_builtin1 ?_ hst (by rfl)
  rw [hst]
  show wpAny _ _ (spliced ((false, eval (.GeneratorExp elt [⟨tg, iter, ifs, 0⟩] scope gpos) X.env) :: backTo pos (starEach [] X.env))) _ _ s
  refine Calls.spliced_cons (gen_make hr hPT TB hcode Sc hc hN hi ok hg ht he hw hs I eo e1 e2 fun g gi s' eX es eT ew er I4 hf hgi hgo nx hsl isg => ?_)
  refine Calls.spliced_nil ?_
  refine call_function_tree F.kind_all F.plain_all F.entry_all (F.args_all1 _) ?_
  unfold Builtin.«all»
  refine wpAny_bind (m := oneArg "all" _) (wpAny_pure ?_)
  refine wpAny_bind (wpAny_pyIter_gen isg ?_)
  refine wpAny_pure ⟨plainId_quiet F.plain_all_loop _, ?_⟩
  subst eX es eT er
  exact all_loop ew hr.hd (by have := hr.dp; omega) I4 hf hgi hgo (fun s2 ⟨H2, I2, n2⟩ => ⟨.bl _, H2, I2, rfl, k _ H2 (nx.trans n2) (.bl _)⟩) _ s' hsl
theorem e_any (hr : Room k X.A) (hm : X.mg "any" = none) (hPT : P ∈ T) (TB : LamX.TabB X.base X.mg c P) (hcode : X.env.code = .ref c) (Sc : GenSc scope) (hc : X.calm = true) (hN : X.N.Nodup) (hi : DI X T q tg iter it) (ok : BlkOk X.N X.env.scope scope own)
    (hg : ∀ s H cl C code fp a go, DG (gcx X s H scope cl C code fp a go) T tg t) (ht : ∀ s H cl C code fp a go, DTs (gcx X s H scope cl C code fp a go) T ifs ts) (he : ∀ s H cl C code fp a go, DE (gcx X s H scope cl C code fp a go) T elt el)
    (hw : ∀ j ∈ t.slots, j ∈ own.map (·.2) := by decide) (hs : ∀ v, genFold iter X.env v = pure v := by intro _; rfl) (hgl : Gl X "any" := by rfl)
    (hst : starEach [.GeneratorExp elt [⟨tg, iter, ifs, 0⟩] scope gpos] X.env = (false, eval (.GeneratorExp elt [⟨tg, iter, ifs, 0⟩] scope gpos) X.env) :: starEach [] X.env := by rfl) :
    DE X T (.Call (.Name "any" p) [.GeneratorExp elt [⟨tg, iter, ifs, 0⟩] scope gpos] [] pos) (anyE (own.map (·.2)) it t ts el) := by
  refine ⟨⟨fun pins s σ H Q I ⟨S, r, d, eo, ef, k⟩ => ?_⟩⟩
  simp only [anyE, Option.bind_eq_bind, Option.bind_eq_some_iff] at ef
  obtain ⟨ds, e1, res, e2, e3⟩ := ef
  cases e3
  refine wpAny_Call_Name_kw (ld_blt I hgl hm boot_any ?_)
  refine PyProof.Rows.callWith_builtin1 ?_ hst (by rfl)
  rw [hst]
  show wpAny _ _ (spliced ((false, eval (.GeneratorExp elt [⟨tg, iter, ifs, 0⟩] scope gpos) X.env) :: backTo pos (starEach [] X.env))) _ _ s
  refine Calls.spliced_cons (gen_make hr hPT TB hcode Sc hc hN hi ok hg ht he hw hs I eo e1 e2 fun g gi s' eX es eT ew er I4 hf hgi hgo nx hsl isg => ?_)
  refine Calls.spliced_nil ?_
  refine call_function_tree F.kind_any F.plain_any F.entry_any (F.args_any1 _) ?_
  unfold Builtin.«any»
  refine wpAny_bind (m := oneArg "any" _) (wpAny_pure ?_)
  refine wpAny_bind (wpAny_pyIter_gen isg ?_)
  refine wpAny_pure ⟨plainId_quiet F.plain_any_loop _, ?_⟩
  subst eX es eT er
  exact any_loop ew hr.hd (by have := hr.dp; omega) I4 hf hgi hgo (fun s2 ⟨H2, I2, n2⟩ => ⟨.bl _, H2, I2, rfl, k _ H2 (nx.trans n2) (.bl _)⟩) _ s' hsl
end
end Dm
end

section
set_option Elab.async false
set_option linter.all false
set_option autoImplicit true
set_option maxRecDepth 100000
set_option maxHeartbeats 1000000
/-! DIter2: zip, enumerate, reversed, range downwards; keys of a dict. -/
namespace Dm
open PySem PySem.Spec PyProof.Rows L2
theorem zipL_get : ∀ {xs ys : List D} {i : Nat} {d : D}, (zipL xs ys)[i]? = some d → ∃ x y, xs[i]? = some x ∧ ys[i]? = some y ∧ d = .tuple [x, y]
  | [], _, _, _, h => by simp [zipL] at h
  | _ :: _, [], _, _, h => by simp [zipL] at h
  | x :: xs, y :: ys, 0, d, h => by simp [zipL] at h; exact ⟨x, y, rfl, rfl, h.symm⟩
  | x :: xs, y :: ys, i + 1, d, h => by
    have h : (zipL xs ys)[i]? = some d := by simpa [zipL] using h
    obtain ⟨a, b, h1, h2, h3⟩ := zipL_get h
    exact ⟨a, b, by simpa using h1, by simpa using h2, h3⟩
theorem zipL_len : ∀ (xs ys : List D), (zipL xs ys).length = min xs.length ys.length
  | [], _ => by simp [zipL]
  | _ :: _, [] => by simp [zipL]
  | x :: xs, y :: ys => by simp [zipL, zipL_len xs ys]
theorem enumL_get : ∀ {xs : List D} {n i : Nat} {d : D}, (enumL n xs)[i]? = some d → ∃ x, xs[i]? = some x ∧ d = .tuple [.int ((n + i : Nat) : Int), x]
  | [], _, _, _, h => by simp [enumL] at h
  | x :: xs, n, 0, d, h => by simp [enumL] at h; exact ⟨x, rfl, by rw [← h]; simp⟩
  | x :: xs, n, i + 1, d, h => by
    have h : (enumL (n + 1) xs)[i]? = some d := by simpa [enumL] using h
    obtain ⟨a, h1, h2⟩ := enumL_get h
    exact ⟨a, by simpa using h1, by rw [h2]; congr 3; omega⟩
theorem enumL_len : ∀ (n : Nat) (xs : List D), (enumL n xs).length = xs.length
  | _, [] => rfl
  | n, _ :: xs => by simp [enumL, enumL_len (n + 1) xs]
section
variable {K : PySem.W.Frag} {T : List Addr}
theorem pair_new {S : List Addr} {H : Hp} {p : Addr} {x y : V} {d e : D} (t : Dm.Tabs T H) (l : Live S H) (hp : H p = none) (rx : Rp K (mns S H) x d) (ry : Rp K (mns S H) y e) : Nxt T H (upd H p (.tup [x, y])) ∧ Rp K (mns S (upd H p (.tup [x, y]))) (.ref p) (.tuple [d, e]) :=
  rp_newtup t l hp (.cons rx (.cons ry .nil))
theorem it_zipL {v u : V} {ds es : List D} {a b : Addr} (hv : v = .ref a) (hu : u = .ref b) : ItOk K T [(v, .list ds), (u, .list es)] [] (zipL ds es) (Itz K a b) := fun S H t l k _ => by
  obtain ⟨a', xs, e, hl, rr⟩ := (k (v, .list ds) (by simp)).list
  rw [hv] at e
  cases e
  obtain ⟨b', ys, e, hm, ss⟩ := (k (u, .list es) (by simp)).list
  rw [hu] at e
  cases e
  refine ⟨fun i hi => ⟨xs, ys, hl, hm, by rw [rr.length, ss.length]; rw [zipL_len] at hi; omega⟩, fun i d hd => ?_⟩
  obtain ⟨dx, dy, h1, h2, rfl⟩ := zipL_get hd
  obtain ⟨x, hx, rx⟩ := rr.get h1
  obtain ⟨y, hy, ry⟩ := ss.get h2
  refine ⟨⟨xs, ys, x, y, hl, hm, hx, hy⟩, fun z H' ⟨P, x', y', e1, e2, e3, e4, e5⟩ => ?_⟩
  have q1 := e4 xs hl
  have q2 := e5 ys hm
  rw [hx] at q1
  rw [hy] at q2
  cases q1
  cases q2
  subst e1 e3
  exact pair_new t l e2 rx ry
theorem it_zipT {v u : V} {ds es : List D} {a b : Addr} (hv : v = .ref a) (hu : u = .ref b) : ItOk K T [(v, .tuple ds), (u, .tuple es)] [] (zipL ds es) (RZ.ItzT K a b) := fun S H t l k _ => by
  obtain ⟨a', xs, e, hl, rr⟩ := (k (v, .tuple ds) (by simp)).tuple
  rw [hv] at e
  cases e
  obtain ⟨b', ys, e, hm, ss⟩ := (k (u, .tuple es) (by simp)).tuple
  rw [hu] at e
  cases e
  refine ⟨fun i hi => ⟨xs, ys, .of hl, .of hm, by rw [rr.length, ss.length]; rw [zipL_len] at hi; omega⟩, fun i d hd => ?_⟩
  obtain ⟨dx, dy, h1, h2, rfl⟩ := zipL_get hd
  obtain ⟨x, hx, rx⟩ := rr.get h1
  obtain ⟨y, hy, ry⟩ := ss.get h2
  refine ⟨⟨xs, ys, x, y, .of hl, .of hm, hx, hy⟩, fun z H' ⟨P, x', y', e1, e2, e3, e4, e5⟩ => ?_⟩
  have q1 := e4 xs (.of hl)
  have q2 := e5 ys (.of hm)
  rw [hx] at q1
  rw [hy] at q2
  cases q1
  cases q2
  subst e1 e3
  exact pair_new t l e2 rx ry
theorem it_enum {v : V} {ds : List D} {a : Addr} (hv : v = .ref a) : ItOk K T [(v, .list ds)] [] (enumL 0 ds) (Ite K a) := fun S H t l k _ => by
  obtain ⟨a', xs, e, hl, rr⟩ := (k (v, .list ds) (by simp)).list
  rw [hv] at e
  cases e
  refine ⟨fun i hi => ⟨xs, hl, by rw [rr.length]; rw [enumL_len] at hi; exact hi⟩, fun i d hd => ?_⟩
  obtain ⟨dx, h1, rfl⟩ := enumL_get hd
  obtain ⟨x, hx, rx⟩ := rr.get h1
  refine ⟨⟨xs, x, hl, hx⟩, fun z H' ⟨P, x', e1, e2, e3, e4⟩ => ?_⟩
  have q1 := e4 xs hl
  rw [hx] at q1
  cases q1
  subst e1 e3
  rw [Nat.zero_add]
  exact pair_new t l e2 (.int _) rx
theorem rev_get {α : Type} {xs : List α} {i : Nat} {d : α} (h : xs.reverse[i]? = some d) : i < xs.length ∧ xs[xs.length - 1 - i]? = some d := by
  obtain ⟨h1, h2⟩ := List.getElem?_eq_some_iff.mp h
  have h1 : i < xs.length := by simpa using h1
  rw [List.getElem_reverse] at h2
  exact ⟨h1, by rw [← h2]; exact List.getElem?_eq_getElem (by omega)⟩
theorem it_revL {v : V} {ds : List D} {a : Addr} {n : Nat} (hv : v = .ref a) (hn : n = ds.length) : ItOk K T [(v, .list ds)] [] ds.reverse (Itv K a n) := fun S H t l k _ => by
  obtain ⟨a', xs, e, hl, rr⟩ := (k (v, .list ds) (by simp)).list
  rw [hv] at e
  cases e
  refine ⟨fun i hi => by rw [List.length_reverse] at hi; rw [hn]; exact hi, fun i d hd => ?_⟩
  obtain ⟨h0, h1⟩ := rev_get hd
  obtain ⟨x, hx, rx⟩ := rr.get h1
  rw [← hn] at hx h0
  refine ⟨⟨h0, xs, x, hl, hx⟩, fun z H' ⟨e1, e2⟩ => ?_⟩
  subst e1
  have q := e2 xs hl
  rw [hx] at q
  cases q
  exact ⟨Nxt.refl t, rx⟩
theorem it_revT {v : V} {ds : List D} {a : Addr} {n : Nat} (hv : v = .ref a) (hn : n = ds.length) : ItOk K T [(v, .tuple ds)] [] ds.reverse (RT.ItvT K a n) := fun S H t l k _ => by
  obtain ⟨a', xs, e, hl, rr⟩ := (k (v, .tuple ds) (by simp)).tuple
  rw [hv] at e
  cases e
  refine ⟨fun i hi => by rw [List.length_reverse] at hi; rw [hn]; exact hi, fun i d hd => ?_⟩
  obtain ⟨h0, h1⟩ := rev_get hd
  obtain ⟨x, hx, rx⟩ := rr.get h1
  rw [← hn] at hx h0
  refine ⟨⟨h0, xs, x, .of hl, hx⟩, fun z H' ⟨e1, e2⟩ => ?_⟩
  subst e1
  have q := e2 xs (.of hl)
  rw [hx] at q
  cases q
  exact ⟨Nxt.refl t, rx⟩
end
section
variable {X : Cx} {T : List Addr} {e a b c : Expr} {es rest : List Expr} {f g h : E} {fs : List E} {pos p : Pos}
theorem two_kp {P : V × D → Prop} {a b : V × D} (ha : P a) (hb : P b) : ∀ x ∈ [a, b], P x := fun x hx => by
  simp only [List.mem_cons, List.not_mem_nil, or_false] at hx
  rcases hx with rfl | rfl
  · exact ha
  · exact hb
/-- two values that stay, or that are looked at -/
structure DQs (X : Cx) (T : List Addr) (q : Bool) (es : List Expr) (fs : List E) : Prop where
  pa : PA X es (fun σ H Q => ∃ S r ds, EnvOk X.K T S H σ r ∧ argsE fs r = some ds ∧ ∀ vs H', Nxt T H H' → vs.length = ds.length → (∀ (i : Nat) (v : V) (d : D), vs[i]? = some v → ds[i]? = some d → RpQ X.K q S H' v d) → Q vs H')
theorem RpBs.get {K : PySem.W.Frag} {S : List Addr} {H : Hp} : ∀ {vs : List V} {ds : List D}, RpBs K S H vs ds → vs.length = ds.length ∧ ∀ (i : Nat) (v : V) (d : D), vs[i]? = some v → ds[i]? = some d → RpB K S H v d
  | _, _, .nil => ⟨rfl, fun i v d h => by simp at h⟩
  | _, _, .cons a b => by
    obtain ⟨h1, h2⟩ := b.get
    refine ⟨congrArg (· + 1) h1, fun i v d e1 e2 => ?_⟩
    cases i with
    | zero => simp at e1 e2; subst e1 e2; exact a
    | succ i => exact h2 i v d (by simpa using e1) (by simpa using e2)
theorem qs_b (h : DAB X T es fs) : DQs X T true es fs := ⟨PA.imp h.pa fun σ H Q ⟨S, r, ds, o, e1, k⟩ => ⟨S, r, ds, o, e1, fun vs H' n rp => k vs H' n rp.get.1 rp.get.2⟩⟩
theorem RpAll.get2 {K : PySem.W.Frag} {H : Hp} {vs : List V} {ds : List D} (r : RpAll K H vs ds) : ∀ (i : Nat) (v : V) (d : D), vs[i]? = some v → ds[i]? = some d → Rp K H v d := fun i v d e1 e2 => by
  obtain ⟨u, h1, h2⟩ := r.get e2
  rw [e1] at h1; cases h1; exact h2
theorem qs_e (h : DA X T es fs) : DQs X T false es fs := ⟨PA.imp h.pa fun σ H Q ⟨S, r, ds, o, e1, k⟩ => ⟨S, r, ds, o, e1, fun vs H' n rp => k vs H' n rp.length rp.get2⟩⟩
theorem i_zipQ {q : Bool} {elts : List Expr} {kk : Nat} {tpos : Pos} (hm : X.mg "zip" = none) (ha : DQs X T q [a, b] [f, g]) (hg : Gl X "zip" := by rfl)
    (hs : starEach [a, b] X.env = (false, eval a X.env) :: starEach [b] X.env := by rfl) (hpl : (backTo pos (starEach [b] X.env)).any (·.1) = false := by rfl) : DI X T q (.Tuple elts kk tpos) (.Call (.Name "zip" p) [a, b] [] pos) (zipI f g) :=
  ⟨PI.imp (RZ.pi_zipA hg hm ha.pa hs hpl) fun σ H R ⟨S, r, zs, o, ef, k⟩ => by
    simp only [zipI, Option.bind_eq_bind, Option.bind_eq_some_iff] at ef
    obtain ⟨dx, e1, dy, e2, e3⟩ := ef
    refine ⟨S, r, [dx, dy], o, by simp [argsE, e1, e2], fun vs H' n hl hv => ?_⟩
    match vs, hl with
    | [v, u], _ =>
      have r1 := hv 0 v dx rfl rfl
      have r2 := hv 1 u dy rfl rfl
      unfold zipD at e3
      split at e3
      · cases e3
        obtain ⟨a1, xs, rfl, h1, _⟩ := r1.look.list
        obtain ⟨b1, ys, rfl, h2, _⟩ := r2.look.list
        exact ⟨a1, b1, xs, ys, rfl, .inl ⟨h1, h2, k _ H' _ [] n (two_kp r1 r2) Fx.nil (it_zipL rfl rfl)⟩⟩
      · cases e3
        obtain ⟨a1, xs, rfl, h1, _⟩ := r1.look.tuple
        obtain ⟨b1, ys, rfl, h2, _⟩ := r2.look.tuple
        exact ⟨a1, b1, xs, ys, rfl, .inr ⟨.of h1, .of h2, k _ H' _ [] n (two_kp r1 r2) Fx.nil (it_zipT rfl rfl)⟩⟩
      · cases e3⟩
theorem i_enumQ {q : Bool} {elts : List Expr} {kk : Nat} {tpos : Pos} (hm : X.mg "enumerate" = none) (ha : DQs X T q [a] [f]) (hg : Gl X "enumerate" := by rfl) (hs : starEach [a] X.env = [(false, eval a X.env)] := by rfl) :
    DI X T q (.Tuple elts kk tpos) (.Call (.Name "enumerate" p) [a] [] pos) (enumI f) :=
  ⟨PI.imp (pi_enum hg hm ha.pa hs) fun σ H R ⟨S, r, zs, o, ef, k⟩ => by
    simp only [enumI, Option.bind_eq_bind, Option.bind_eq_some_iff] at ef
    obtain ⟨dx, e1, e3⟩ := ef
    refine ⟨S, r, [dx], o, by simp [argsE, e1], fun vs H' n hl hv => ?_⟩
    match vs, hl with
    | [v], _ =>
      have r1 := hv 0 v dx rfl rfl
      unfold enumD at e3
      split at e3
      · cases e3
        obtain ⟨a1, xs, rfl, h1, _⟩ := r1.look.list
        exact ⟨a1, xs, rfl, h1, k _ H' [(_, _)] [] n (fun x hx => by simp at hx; subst hx; exact r1) Fx.nil (it_enum rfl)⟩
      · cases e3⟩
theorem i_rev {q : Bool} {tg : Expr} (hm : X.mg "reversed" = none) (ha : DQ X T q a f) (hg : Gl X "reversed" := by rfl) (hs : starEach [a] X.env = (false, eval a X.env) :: starEach [] X.env := by rfl) :
    DI X T q tg (.Call (.Name "reversed" p) [a] [] pos) (revI f) :=
  ⟨PI.imp (RT.pi_revA hg hm ha.pe hs) fun σ H R ⟨S, r, zs, o, ef, k⟩ => by
    simp only [revI, Option.bind_eq_bind, Option.bind_eq_some_iff] at ef
    obtain ⟨dx, e1, ds, e2, e3⟩ := ef
    cases e3
    refine ⟨S, r, dx, o, e1, fun v H' n r1 => ?_⟩
    unfold seqD at e2
    split at e2
    · cases e2
      obtain ⟨a1, xs, rfl, h1, h2⟩ := r1.look.list
      exact ⟨a1, xs, rfl, .inl ⟨h1, k _ H' [(_, _)] [] n (fun x hx => by simp at hx; subst hx; exact r1) Fx.nil (it_revL rfl h2.length)⟩⟩
    · cases e2
      obtain ⟨a1, xs, rfl, h1, h2⟩ := r1.look.tuple
      exact ⟨a1, xs, rfl, .inr ⟨.of h1, k _ H' [(_, _)] [] n (fun x hx => by simp at hx; subst hx; exact r1) Fx.nil (it_revT rfl h2.length)⟩⟩
    · cases e2⟩
end
end Dm
end

section
set_option Elab.async false
set_option linter.all false
set_option autoImplicit true
set_option maxRecDepth 100000
set_option maxHeartbeats 1000000
/-! DKeys: the keys of a dict walked (the dict locked meanwhile). -/
namespace Dm
open PySem PySem.Spec PyProof.Rows L2
/-- a dict with keys -/
def Dct (u : HO) : Prop := (∃ ks, u = .dK ks ∧ ks ≠ []) ∨ ∃ ks, u = .dT ks ∧ ks ≠ []
theorem Dct.mut {u : HO} (d : Dct u) : Mut (some u) := by
  rcases d with ⟨ks, rfl, _⟩ | ⟨ks, rfl, _⟩ <;> trivial
theorem Dct.good {u : HO} (d : Dct u) : Good u := by
  rcases d with ⟨ks, rfl, _⟩ | ⟨ks, rfl, _⟩ <;> trivial
theorem Dct.nt {u : HO} (d : Dct u) : ∀ ps, u ≠ .tbl ps := fun ps => by
  rcases d with ⟨ks, rfl, _⟩ | ⟨ks, rfl, _⟩ <;> exact fun z => by cases z
theorem le_lock {H : Hp} {a : Addr} {u : HO} {o : Obj} (d : Dct u) (e : H a = some u) : Le H (upd H a (.frz o u)) := by
  have ne : ∀ b x, H b = some x → x ≠ u → b ≠ a := fun b x h n z => by rw [z, e] at h; cases h; exact n rfl
  refine ⟨fun b x g h => ?_, fun b xs h => ?_, fun b x g h => ?_⟩
  · by_cases hb : b = a
    · subst hb
      rcases h with h | ⟨o', h⟩
      · rw [e] at h; cases h; exact .inr ⟨o, upd_same⟩
      · rw [e] at h; cases h
        rcases d with ⟨ks, z, _⟩ | ⟨ks, z, _⟩ <;> cases z
    · rcases h with h | ⟨o', h⟩
      · exact .inl ((upd_ne hb).trans h)
      · exact .inr ⟨o', (upd_ne hb).trans h⟩
  · refine (upd_ne (ne b _ h fun z => ?_)).trans h
    rcases d with ⟨ks, y, _⟩ | ⟨ks, y, _⟩ <;> rw [y] at z <;> cases z
  · refine (upd_ne (ne b _ h fun z => ?_)).trans h
    rcases d with ⟨ks, y, n⟩ | ⟨ks, y, n⟩ <;> rcases g with g | g <;> rw [g, y] at z <;> cases z <;> exact n rfl
theorem le_unlock {H : Hp} {a : Addr} {u : HO} {o : Obj} (d : Dct u) (e : H a = some (.frz o u)) : Le H (upd H a u) := by
  have ne : ∀ b x, H b = some x → (∀ o y, x ≠ .frz o y) → b ≠ a := fun b x h n z => by rw [z, e] at h; cases h; exact n _ _ rfl
  refine ⟨fun b x g h => ?_, fun b xs h => (upd_ne (ne b _ h fun _ _ z => by cases z)).trans h, fun b x g h => (upd_ne (ne b _ h fun _ _ z => by rcases g with g | g <;> rw [g] at z <;> cases z)).trans h⟩
  by_cases hb : b = a
  · subst hb
    rcases h with h | ⟨o', h⟩
    · rw [e] at h; cases h; exact g.elim
    · rw [e] at h; cases h; exact .inl upd_same
  · rcases h with h | ⟨o', h⟩
    · exact .inl ((upd_ne hb).trans h)
    · exact .inr ⟨o', (upd_ne hb).trans h⟩
section
variable {K : PySem.W.Frag} {T S : List Addr} {H H' : Hp} {σ : L2.St} {r : Env} {a : Addr} {u : HO} {o : Obj}
theorem tabs_lock {x : HO} (t : Dm.Tabs T H) (h : ∀ ps, H a ≠ some (.tbl ps)) : Dm.Tabs T (upd H a x) := tabs_upd t h
theorem EnvOk.lock (eo : EnvOk K T S H σ r) (d : Dct u) (e : H a = some u) (ha : a ∉ S) : EnvOk K T S (upd H a (.frz o u)) σ r := by
  have l : Le (mns S H) (mns S (upd H a (.frz o u))) := le_mns (le_lock d e)
  refine ⟨tabs_lock eo.tabs fun ps z => by rw [e] at z; cases z; exact d.nt _ rfl, fun b hb => ?_, eo.len, fun i v sl h1 h2 => ?_, eo.inj⟩
  · obtain ⟨x, h1, h2⟩ := eo.live b hb
    exact ⟨x, (upd_ne fun z => ha (by rw [← z]; exact hb)).trans h1, h2⟩
  · have q := eo.slot i v sl h1 h2
    cases sl with
    | no => exact q
    | va d => obtain ⟨x, z1, z2⟩ := q; exact ⟨x, z1, z2.le l⟩
    | ow d =>
      obtain ⟨p', z1, z2, z3⟩ := q
      refine ⟨p', z1, z2, ?_⟩
      have hne : p' ≠ a := fun z => ha (z ▸ z2)
      cases z3 with
      | lst e1 r1 => exact .lst ((upd_ne hne).trans e1) (r1.le l)
      | dk e1 r1 => exact .dk ((upd_ne hne).trans e1) (r1.le l)
      | dt e1 r1 => exact .dt ((upd_ne hne).trans e1) (r1.le l)
theorem Nxt.unlock (n : Nxt T (upd H a (.frz o u)) H') (e : H a = some u) (d : Dct u) : H' a = some (.frz o u) ∧ Nxt T H (upd H' a u) := by
  have e' : H' a = some (.frz o u) := n.ext a _ upd_same fun ps z => by cases z
  refine ⟨e', fun b x h nt => ?_, tabs_lock n.tabs (fun ps z => (by rw [e'] at z; cases z)), fun b ps h => ?_⟩
  · by_cases hb : b = a
    · subst hb; rw [e] at h; cases h; exact upd_same
    · exact (upd_ne hb).trans (n.ext b x ((upd_ne hb).trans h) nt)
  · by_cases hb : b = a
    · subst hb; rw [e] at h; cases h; exact absurd rfl (d.nt _)
    · obtain ⟨ps', h'⟩ := n.tbl b ps ((upd_ne hb).trans h)
      exact ⟨ps', (upd_ne hb).trans h'⟩
theorem Own.unlock {p : Addr} {x : D} (ow : Own K S H p x) (e : H a = some (.frz o u)) (d : Dct u) : Own K S (upd H a u) p x := by
  have l : Le (mns S H) (mns S (upd H a u)) := le_mns (le_unlock d e)
  have ne : ∀ y, H p = some y → (∀ o z, y ≠ .frz o z) → p ≠ a := fun y h n z => by rw [z, e] at h; cases h; exact n _ _ rfl
  cases ow with
  | lst e1 r1 => exact .lst ((upd_ne (ne _ e1 fun _ _ z => by cases z)).trans e1) (r1.le l)
  | dk e1 r1 => exact .dk ((upd_ne (ne _ e1 fun _ _ z => by cases z)).trans e1) (r1.le l)
  | dt e1 r1 => exact .dt ((upd_ne (ne _ e1 fun _ _ z => by cases z)).trans e1) (r1.le l)
theorem RpK.keys : ∀ {ks : List (Key × V)} {kvs : List (D × D)}, RpK K H ks kvs → kvs.map (·.1) = ks.map fun q => kD q.1
  | _, _, .nil => rfl
  | _, _, .cons _ r => by rw [List.map_cons, List.map_cons, r.keys]
theorem RpT.keys : ∀ {ks : List (List Key × V)} {kvs : List (D × D)}, RpT K H ks kvs → kvs.map (·.1) = ks.map fun q => PyData.tuple (q.1.map kD)
  | _, _, .nil => rfl
  | _, _, .cons _ r => by rw [List.map_cons, List.map_cons, r.keys]
theorem rp_kD (k : Key) : Rp K H (kV k) (kD k) := by
  cases k with
  | inl i => exact .int i
  | inr x => exact .str x
theorem rpAll_kD : ∀ ks : List Key, RpAll K H (ks.map kV) (ks.map kD)
  | [] => .nil
  | k :: ks => .cons (rp_kD k) (rpAll_kD ks)
theorem it_keysK {ks : List (Key × V)} : ItOk K T [] [(a, .frz o (.dK ks))] (ks.map fun q => kD q.1) (Itk a o ks) := fun S H t l k fx => by
  obtain ⟨h1, _, _⟩ := fx (a, .frz o (.dK ks)) (by simp)
  refine ⟨fun i hi => ⟨h1, by simpa using hi⟩, fun i d hd => ?_⟩
  rw [List.getElem?_map] at hd
  cases hk : ks[i]? with
  | none => rw [hk] at hd; cases hd
  | some q =>
    rw [hk] at hd
    cases hd
    refine ⟨⟨h1, (List.getElem?_eq_some_iff.mp hk).1⟩, fun x H' ⟨e1, k', v', e2, e3⟩ => ?_⟩
    rw [hk] at e2
    cases e2
    subst e1 e3
    exact ⟨Nxt.refl t, rp_kD _⟩
theorem it_keysT {ks : List (List Key × V)} : ItOk K T [] [(a, .frz o (.dT ks))] (ks.map fun q => PyData.tuple (q.1.map kD)) (Itkt a o ks) := fun S H t l k fx => by
  obtain ⟨h1, _, _⟩ := fx (a, .frz o (.dT ks)) (by simp)
  refine ⟨fun i hi => ⟨h1, by simpa using hi⟩, fun i d hd => ?_⟩
  rw [List.getElem?_map] at hd
  cases hk : ks[i]? with
  | none => rw [hk] at hd; cases hd
  | some q =>
    rw [hk] at hd
    cases hd
    refine ⟨⟨h1, (List.getElem?_eq_some_iff.mp hk).1⟩, fun x H' ⟨e1, k', v', p, e2, e3, e4⟩ => ?_⟩
    rw [hk] at e2
    cases e2
    subst e1 e3
    refine ⟨Nxt.refl t, .tup ((mns_of fun z => ?_).trans e4) (rpAll_kD _)⟩
    obtain ⟨x, h2, h3⟩ := l p z
    rw [h2] at e4
    cases e4
    exact h3.tup _ rfl
/-- a dict that stays, at a name -/
theorem EnvOk.dict (eo : EnvOk K T S H σ r) {i : Nat} {kvs : List (D × D)} (h : r[i]? = some (.va (.dict kvs))) :
    ∃ a, σ[i]? = some (some (.ref a)) ∧ a ∉ S ∧ ((∃ ks, Rd H a (.dK ks) ∧ (ks = [] → H a = some (.dK [])) ∧ kvs.map (·.1) = ks.map fun q => kD q.1) ∨ ∃ ks, Rd H a (.dT ks) ∧ (ks = [] → H a = some (.dT [])) ∧ kvs.map (·.1) = ks.map fun q => PyData.tuple (q.1.map kD)) := by
  obtain ⟨v, e1, x, e2, rp⟩ := eo.at h
  subst e2
  cases rp with
  | dk q m rr =>
    obtain ⟨q1, q2⟩ := rd_mns q
    exact ⟨_, e1, q2, .inl ⟨_, q1, fun z => (mns_some (m z)).1, rr.keys⟩⟩
  | dt q m rr =>
    obtain ⟨q1, q2⟩ := rd_mns q
    exact ⟨_, e1, q2, .inr ⟨_, q1, fun z => (mns_some (m z)).1, rr.keys⟩⟩
/-- the iterator's reading, the dict being locked -/
theorem keys_read {i : Nat} {R : It → Hp → Prop} (ha : σ[i]? = some (some (.ref a))) (hu : (∃ ks, u = .dK ks) ∨ ∃ ks, u = .dT ks) (hH : H a = some (.frz o u)) (h : tDI K T false (keysI (vE i)) σ H R) : iKeys (tVar i) σ H R := by
  obtain ⟨S, r, ds, eo, ef, k⟩ := h
  simp only [keysI, Option.bind_eq_bind, Option.bind_eq_some_iff] at ef
  obtain ⟨d, e1, e2⟩ := ef
  split at e2
  · rename_i kvs
    cases e2
    have hi : r[i]? = some (.va (.dict kvs)) := by
      unfold vE at e1
      split at e1
      · rename_i d' hd'; cases e1; exact hd'
      · cases e1
    obtain ⟨a', e3, hS, hh⟩ := eo.dict hi
    rw [ha] at e3
    cases e3
    have nx : Nxt T H H := Nxt.refl eo.tabs
    have fx : Fx [(a, .frz o u)] S H := fun q hq => by
      simp at hq
      subst hq
      exact ⟨hH, hS, fun ps z => by cases z⟩
    rcases hu with ⟨ks, rfl⟩ | ⟨ks, rfl⟩
    · rcases hh with ⟨ks', q1, _, q3⟩ | ⟨ks', q1, _, q3⟩
      · have : ks' = ks := by
          rcases q1 with q1 | ⟨o', q1⟩ <;> rw [hH] at q1 <;> cases q1
          rfl
        subst this
        exact ⟨_, ha, a, o, rfl, .inl ⟨ks', hH, k _ H [] _ nx (fun x hx => by cases hx) fx (by rw [q3]; exact it_keysK)⟩⟩
      · rcases q1 with q1 | ⟨o', q1⟩ <;> rw [hH] at q1 <;> cases q1
    · rcases hh with ⟨ks', q1, _, q3⟩ | ⟨ks', q1, _, q3⟩
      · rcases q1 with q1 | ⟨o', q1⟩ <;> rw [hH] at q1 <;> cases q1
      · have : ks' = ks := by
          rcases q1 with q1 | ⟨o', q1⟩ <;> rw [hH] at q1 <;> cases q1
          rfl
        subst this
        exact ⟨_, ha, a, o, rfl, .inr ⟨ks', hH, k _ H [] _ nx (fun x hx => by cases hx) fx (by rw [q3]; exact it_keysT)⟩⟩
  · cases e2
end
theorem PE.or {X : Cx} {e : Expr} {t u : TE} (h : PE X e t) (h' : PE X e u) : PE X e (fun σ H Q => t σ H Q ∨ u σ H Q) := ⟨fun pins s σ H Q I q => q.elim (h.run pins s σ H Q I) (h'.run pins s σ H Q I)⟩
section
variable {X : Cx} {T : List Addr} {elt tg : Expr} {ifs : List Expr} {scope : Scope} {own : List (Str × Nat)} {t : Tg} {ts : Dm.T} {el : E} {pos p : Pos}
/-- the reading of a comprehension over a dict's keys -/
theorem lcK_read {i : Nat} {own : List Nat} (hw : ∀ j ∈ t.slots, j ∈ own) {K : PySem.W.Frag} {σ : L2.St} {H : Hp} {Q : VK} (h : tDF K T (lstI (compI own (keysI (vE i)) t ts el)) σ H Q) :
    tLockE (tLc (iKeys (tVar i)) (tDG K T t) (tDT K T ts) (tDE K T el) own) σ H Q ∨ tLc (iKeys (tVar i)) (tDG K T t) (tDT K T ts) (tDE K T el) own σ H Q := by
  obtain ⟨S, r, d, eo, ef, k⟩ := h
  have ef0 := ef
  simp only [lstI, compI, keysI, Option.bind_eq_bind, Option.bind_eq_some_iff] at ef
  obtain ⟨zs, ⟨ds, ⟨dd, e1, e2⟩, ys, e3, e4⟩, e5⟩ := ef
  split at e2
  · rename_i kvs
    have e2 := Option.some.inj e2
    subst e2
    have hi : r[i]? = some (.va (.dict kvs)) := by
      unfold vE at e1
      split at e1
      · rename_i d' hd'; cases e1; exact hd'
      · cases e1
    obtain ⟨a, ha, hS, hh⟩ := eo.dict hi
    -- locked here
    have lock : ∀ u, H a = some u → Dct u → tLockE (tLc (iKeys (tVar i)) (tDG K T t) (tDT K T ts) (tDE K T el) own) σ H Q := fun u e dc => by
      refine ⟨a, u, e, dc.mut, fun od => ?_⟩
      have eo' := eo.lock (o := od) dc e hS
      have hu : (∃ ks, u = .dK ks) ∨ ∃ ks, u = .dT ks := by
        rcases dc with ⟨ks, z, _⟩ | ⟨ks, z, _⟩
        · exact .inl ⟨ks, z⟩
        · exact .inr ⟨ks, z⟩
      have lc := lc_read (q := false) (it := keysI (vE i)) (Q := fun v H' => H' a = some (.frz od u) ∧ Q v (upd H' a u)) hw eo' ef0 fun p H' hp n ow => by
        obtain ⟨e', n'⟩ := n.unlock e dc
        have hp' : H p = Option.none := by
          by_cases hb : p = a
          · subst hb; rw [upd_same] at hp; cases hp
          · rw [upd_ne hb] at hp; exact hp
        exact ⟨e', k p _ hp' n' (ow.unlock e' dc)⟩
      exact keys_read (K := K) (T := T) (u := u) (o := od) ha hu upd_same lc
    -- locked already
    have locked : ∀ o u, H a = some (.frz o u) → ((∃ ks, u = .dK ks) ∨ ∃ ks, u = .dT ks) → tLc (iKeys (tVar i)) (tDG K T t) (tDT K T ts) (tDE K T el) own σ H Q := fun o u e hu =>
      have lc := lc_read (q := false) (it := keysI (vE i)) (Q := Q) hw eo ef0 k
      keys_read (K := K) (T := T) (u := u) (o := o) ha hu e lc
    -- no key
    have none : ∀ u, H a = some u → (u = .dK [] ∨ u = .dT []) → kvs.map (·.1) = [] → tLockE (tLc (iKeys (tVar i)) (tDG K T t) (tDT K T ts) (tDE K T el) own) σ H Q := fun u e hu hn => by
      have mu : Mut (some u) := by rcases hu with rfl | rfl <;> trivial
      refine ⟨a, u, e, mu, fun od => ?_⟩
      rw [hn] at e3
      simp only [compL, Option.some.injEq] at e3
      subst e3
      have hz : zs = [] := by
        unfold fitL at e4
        rw [if_pos (by decide)] at e4
        exact (Option.some.inj e4).symm
      subst hz
      cases e5
      have back : upd (upd H a (.frz od u)) a u = H := by
        funext b
        by_cases hb : b = a
        · subst hb; rw [upd_same, e]
        · rw [upd_ne hb, upd_ne hb]
      have fin : ∀ D, (upd H a (.frz od u)) D = Option.none → (upd (upd H a (.frz od u)) D (.lst [])) a = some (.frz od u) ∧ Q (.ref D) (upd (upd (upd H a (.frz od u)) D (.lst [])) a u) := fun D hD => by
        have hDa : D ≠ a := fun z => by rw [z, upd_same] at hD; cases hD
        refine ⟨(upd_ne (Ne.symm hDa)).trans upd_same, ?_⟩
        have hc : upd (upd (upd H a (.frz od u)) D (.lst [])) a u = upd H D (.lst []) := by
          funext b
          by_cases hb : b = a
          · subst hb; rw [upd_same, upd_ne (Ne.symm hDa), e]
          · by_cases hd : b = D
            · subst hd; rw [upd_ne hb, upd_same, upd_same]
            · rw [upd_ne hb, upd_ne hd, upd_ne hb, upd_ne hd]
        rw [hc]
        rw [upd_ne hDa] at hD
        exact k D _ hD (nxt_new eo.tabs hD) (.lst upd_same .nil)
      rcases hu with rfl | rfl
      · refine ⟨_, ha, a, od, rfl, .inl ⟨[], upd_same, fun D hD => ⟨fun i m Hc => i = 0 ∧ Hc = upd (upd H a (.frz od (.dK []))) D (.lst []), ⟨0, rfl, rfl⟩, ?_⟩⟩⟩
        rintro i m Hc ⟨rfl, rfl⟩
        exact .inl ⟨⟨(fin D hD).1, Nat.zero_le _⟩, fin D hD⟩
      · refine ⟨_, ha, a, od, rfl, .inr ⟨[], upd_same, fun D hD => ⟨fun i m Hc => i = 0 ∧ Hc = upd (upd H a (.frz od (.dT []))) D (.lst []), ⟨0, rfl, rfl⟩, ?_⟩⟩⟩
        rintro i m Hc ⟨rfl, rfl⟩
        exact .inl ⟨⟨(fin D hD).1, Nat.zero_le _⟩, fin D hD⟩
    rcases hh with ⟨ks, q1, q2, q3⟩ | ⟨ks, q1, q2, q3⟩
    · by_cases hk : ks = []
      · subst hk
        exact .inl (none _ (q2 rfl) (.inl rfl) q3)
      · rcases q1 with q1 | ⟨o, q1⟩
        · exact .inl (lock _ q1 (.inl ⟨ks, rfl, hk⟩))
        · exact .inr (locked o _ q1 (.inl ⟨ks, rfl⟩))
    · by_cases hk : ks = []
      · subst hk
        exact .inl (none _ (q2 rfl) (.inr rfl) q3)
      · rcases q1 with q1 | ⟨o, q1⟩
        · exact .inl (lock _ q1 (.inr ⟨ks, rfl, hk⟩))
        · exact .inr (locked o _ q1 (.inr ⟨ks, rfl⟩))
  · cases e2
theorem f_lcK (i : Nat) {x : Str} {p2 : Pos} (hc : X.calm = true) (hNd : X.N.Nodup) (ok : BlkOk X.N X.env.scope scope own)
    (hg : ∀ (s : Shared) (H : Hp) (C : Addr) (cl : List (Str × Addr)) (fp : List Addr), DG (X.blk s H scope (compEnvC scope cl C X.env) fp) T tg t) (ht : ∀ (s : Shared) (H : Hp) (C : Addr) (cl : List (Str × Addr)) (fp : List Addr), DTs (X.blk s H scope (compEnvC scope cl C X.env) fp) T ifs ts)
    (he : ∀ (s : Shared) (H : Hp) (C : Addr) (cl : List (Str × Addr)) (fp : List Addr), DE (X.blk s H scope (compEnvC scope cl C X.env) fp) T elt el) (hw : ∀ j ∈ t.slots, j ∈ own.map (·.2) := by decide)
    (hN : X.N[i]? = some x := by rfl) (hv : Vis X.env.scope x := by first | exact Or.inl rfl | exact Or.inr (Or.inl rfl) | exact Or.inr (Or.inr rfl)) (hd : (x == ("__debug__" : Str)) = false := by decide) (hcd : (x == ("__classdict__" : Str)) = false := by decide)
    (hs : ∀ y, foldedSetIterable (.Name x p2) X.env y = pure y := by intro _; rfl) :
    DF X T (.ListComp elt [⟨tg, .Name x p2, ifs, 0⟩] scope pos) (lstI (compI (own.map (·.2)) (keysI (vE i)) t ts el)) := by
  have base := pe_lc (pos := pos) (elt := elt) (g := tDG X.K T t) (tt := tDT X.K T ts) (te := tDE X.K T el) hc hNd (pi_keys (tg := tg) (pe_var hN hv hd hcd)) ok (fun s H C cl fp => (hg s H C cl fp).pg) (fun s H C cl fp => (ht s H C cl fp).pt) (fun s H C cl fp => (he s H C cl fp).pe) hs
  exact ⟨PE.imp (PE.or (pe_lock base) base) fun σ H Q h => lcK_read hw h⟩
end
end Dm
end

section
set_option Elab.async false
set_option linter.all false
set_option autoImplicit true
set_option maxRecDepth 100000
set_option maxHeartbeats 1000000
/-! DFun1: tuple(..), list(..), sum, isinstance, index, all and any of a list. -/
namespace Dm
open PySem PySem.Spec PyProof.Rows L2
theorem rpAll_intsOf {K : PySem.W.Frag} {H : Hp} : ∀ {xs : List V} {ds : List D} {ns : List Int}, RpAll K H xs ds → intsOf ds = some ns → xs = ns.map V.int
  | _, _, _, .nil, h => by simp [intsOf] at h; subst h; rfl
  | _, d :: ds, ns, .cons a r, h => by
    cases d with
    | int i =>
      cases a
      simp only [intsOf, Option.map_eq_some_iff] at h
      obtain ⟨ms, h1, rfl⟩ := h
      rw [rpAll_intsOf r h1]; rfl
    | _ => simp [intsOf] at h
theorem rpAll_boolsOf {K : PySem.W.Frag} {H : Hp} : ∀ {xs : List V} {ds : List D} {ns : List Bool}, RpAll K H xs ds → boolsOf ds = some ns → xs = ns.map V.bl
  | _, _, _, .nil, h => by simp [boolsOf] at h; subst h; rfl
  | _, d :: ds, ns, .cons a r, h => by
    cases d with
    | bool i =>
      cases a
      simp only [boolsOf, Option.map_eq_some_iff] at h
      obtain ⟨ms, h1, rfl⟩ := h
      rw [rpAll_boolsOf r h1]; rfl
    | _ => simp [boolsOf] at h
section
variable {X : Cx} {T : List Addr} {e a b c : Expr} {es rest : List Expr} {f g h : E} {fs : List E} {pos p p2 pos2 : Pos}
/-- one value, looked at -/
theorem rD_one {o : D → Option D} {xs : List V} {H : Hp} {Q : VK} (h : rD X.K T (on1 o) xs H Q) : ∃ S d x r, Dm.Tabs T H ∧ Live S H ∧ xs = [x] ∧ RpB X.K S H x d ∧ o d = some r ∧ ∀ z H', Nxt T H H' → Rp X.K (mns S H') z r → Q z H' := by
  obtain ⟨S, ds, r, t, l, rp, eo, q⟩ := h
  obtain ⟨d, rfl, e2⟩ := on1_some eo
  obtain ⟨x, rfl, hx⟩ := rp.one
  exact ⟨S, d, x, r, t, l, rfl, hx, e2, q⟩
theorem rF_one {o : D → Option D} {xs : List V} {H : Hp} {Q : VK} (h : rF X.K T (on1 o) xs H Q) : ∃ S d x r, Dm.Tabs T H ∧ Live S H ∧ xs = [x] ∧ RpB X.K S H x d ∧ o d = some r ∧ ∀ p H', H p = none → Nxt T H H' → Own X.K (p :: S) H' p r → Q (.ref p) H' := by
  obtain ⟨S, ds, r, t, l, rp, eo, q⟩ := h
  obtain ⟨d, rfl, e2⟩ := on1_some eo
  obtain ⟨x, rfl, hx⟩ := rp.one
  exact ⟨S, d, x, r, t, l, rfl, hx, e2, q⟩
theorem cd_sum (hc : X.calm = true) : CallR X (.builtin "sum") (rD X.K T (on1 sumD)) := by
  intro pins s σ H xs us Q I rx hh
  obtain ⟨S, d, x, r, t, l, rfl, hx, eo, q⟩ := rD_one hh
  unfold sumD at eo
  split at eo
  · simp only [Option.map_eq_some_iff] at eo
    obtain ⟨ns, h1, rfl⟩ := eo
    obtain ⟨a, ys, rfl, hl, rr⟩ := hx.list
    exact cr_sum hc pins s σ H _ us Q I rx ⟨a, ns, rfl, by rw [← rpAll_intsOf rr h1]; exact hl, q _ H (Nxt.refl t) (.int _)⟩
  · cases eo
theorem e_sum (hm : X.mg "sum" = none) (ha : DB X T a f) (hc : X.calm = true := by rfl) (hg : Gl X "sum" := by rfl) (he : starEach [a] X.env = (false, eval a X.env) :: starEach [] X.env := by rfl) : DE X T (.Call (.Name "sum" p) [a] [] pos) (unE sumD f) :=
  (e_bi (cd_sum hc) hm (by decide +kernel) (b_cons ha b_nil he) hg (by decide) (by decide) he).of fun _ _ h => un_on1 h
theorem cd_all (hc : X.calm = true) : CallR X (.builtin "all") (rD X.K T (on1 allLD)) := by
  intro pins s σ H xs us Q I rx hh
  obtain ⟨S, d, x, r, t, l, rfl, hx, eo, q⟩ := rD_one hh
  unfold allLD at eo
  split at eo
  · simp only [Option.map_eq_some_iff] at eo
    obtain ⟨ns, h1, rfl⟩ := eo
    obtain ⟨a, ys, rfl, hl, rr⟩ := hx.list
    exact cr_all hc pins s σ H _ us Q I rx ⟨a, ns, rfl, by rw [← rpAll_boolsOf rr h1]; exact hl, q _ H (Nxt.refl t) (.bl _)⟩
  · cases eo
theorem e_allL (hm : X.mg "all" = none) (ha : DB X T a f) (hc : X.calm = true := by rfl) (hg : Gl X "all" := by rfl) (he : starEach [a] X.env = (false, eval a X.env) :: starEach [] X.env := by rfl) : DE X T (.Call (.Name "all" p) [a] [] pos) (unE allLD f) :=
  (e_bi (cd_all hc) hm (by decide +kernel) (b_cons ha b_nil he) hg (by decide) (by decide) he).of fun _ _ h => un_on1 h
theorem cd_any (hc : X.calm = true) : CallR X (.builtin "any") (rD X.K T (on1 anyLD)) := by
  intro pins s σ H xs us Q I rx hh
  obtain ⟨S, d, x, r, t, l, rfl, hx, eo, q⟩ := rD_one hh
  unfold anyLD at eo
  split at eo
  · simp only [Option.map_eq_some_iff] at eo
    obtain ⟨ns, h1, rfl⟩ := eo
    obtain ⟨a, ys, rfl, hl, rr⟩ := hx.list
    exact cr_any hc pins s σ H _ us Q I rx ⟨a, ns, rfl, by rw [← rpAll_boolsOf rr h1]; exact hl, q _ H (Nxt.refl t) (.bl _)⟩
  · cases eo
theorem e_anyL (hm : X.mg "any" = none) (ha : DB X T a f) (hc : X.calm = true := by rfl) (hg : Gl X "any" := by rfl) (he : starEach [a] X.env = (false, eval a X.env) :: starEach [] X.env := by rfl) : DE X T (.Call (.Name "any" p) [a] [] pos) (unE anyLD f) :=
  (e_bi (cd_any hc) hm (by decide +kernel) (b_cons ha b_nil he) hg (by decide) (by decide) he).of fun _ _ h => un_on1 h

/-! ### tuple(..), list(..) -/
theorem tupD_of {r : Env} {d : D} (h : tupI (seqI f) r = some d) : unE tupD f r = some d := by
  simp only [tupI, seqI, Option.bind_eq_bind, Option.bind_eq_some_iff] at h
  obtain ⟨ds, ⟨x, h1, h2⟩, h3⟩ := h
  simp only [unE, tupD, Option.bind_eq_bind, h1, Option.bind_some, h2, Option.map_some]
  exact h3
theorem lstD_of {r : Env} {d : D} (h : lstI (seqI f) r = some d) : unE lstD f r = some d := by
  simp only [lstI, seqI, Option.bind_eq_bind, Option.bind_eq_some_iff] at h
  obtain ⟨ds, ⟨x, h1, h2⟩, h3⟩ := h
  simp only [unE, lstD, Option.bind_eq_bind, h1, Option.bind_some, h2, Option.map_some]
  exact h3
theorem cd_tup : CallR X (.type "tuple") (rD X.K T (on1 tupD)) := by
  intro pins s σ H xs us Q I rx hh
  obtain ⟨S, d, x, r, t, l, rfl, hx, eo, q⟩ := rD_one hh
  simp only [tupD, Option.map_eq_some_iff] at eo
  obtain ⟨ds, h1, rfl⟩ := eo
  unfold seqD at h1
  split at h1
  · cases h1
    obtain ⟨a, ys, rfl, hl, rr⟩ := hx.list
    exact call_tuple_of pins s σ H _ us Q I rx ⟨a, ys, rfl, .inl ⟨hl, fun p hp => by
      obtain ⟨n1, r1⟩ := rp_newtup t l hp rr
      exact q _ _ n1 r1⟩⟩
  · cases h1
    have hx0 := hx
    obtain ⟨a, ys, rfl, hl, rr⟩ := hx.tuple
    refine call_tuple_of pins s σ H _ us Q I rx ⟨a, ys, rfl, .inr ⟨.of hl, q _ H (Nxt.refl t) ?_⟩⟩
    rcases hx0 with h | ⟨p, e, o⟩
    · exact h
    · cases o
  · cases h1
theorem e_tupOf (hm : X.mg "tuple" = none) (ha : DB X T a f) (hg : Gl X "tuple" := by rfl) (he : starEach [a] X.env = (false, eval a X.env) :: starEach [] X.env := by rfl) : DE X T (.Call (.Name "tuple" p) [a] [] pos) (tupI (seqI f)) :=
  (e_bt cd_tup hm (by decide +kernel) (b_cons ha b_nil he) hg (by decide) (by decide) he).of fun _ _ h => un_on1 (tupD_of h)
theorem cd_list : CallR X (.type "list") (rF X.K T (on1 lstD)) := by
  intro pins s σ H xs us Q I rx hh
  obtain ⟨S, d, x, r, t, l, rfl, hx, eo, q⟩ := rF_one hh
  simp only [lstD, Option.map_eq_some_iff] at eo
  obtain ⟨ds, h1, rfl⟩ := eo
  unfold seqD at h1
  split at h1
  · cases h1
    obtain ⟨a, ys, rfl, hl, rr⟩ := hx.list
    exact call_list_of pins s σ H _ us Q I rx ⟨a, ys, rfl, .inl hl, fun p hp => by
      obtain ⟨n1, o1⟩ := own_newlst t l hp rr
      exact q _ _ hp n1 o1⟩
  · cases h1
    obtain ⟨a, ys, rfl, hl, rr⟩ := hx.tuple
    exact call_list_of pins s σ H _ us Q I rx ⟨a, ys, rfl, .inr (.of hl), fun p hp => by
      obtain ⟨n1, o1⟩ := own_newlst t l hp rr
      exact q _ _ hp n1 o1⟩
  · cases h1
theorem f_lstOf (hm : X.mg "list" = none) (ha : DB X T a f) (hg : Gl X "list" := by rfl) (he : starEach [a] X.env = (false, eval a X.env) :: starEach [] X.env := by rfl) : DF X T (.Call (.Name "list" p) [a] [] pos) (lstI (seqI f)) :=
  (f_bt cd_list hm (by decide +kernel) (b_cons ha b_nil he) hg (by decide) (by decide) he).of fun _ _ h => un_on1 (lstD_of h)
theorem rgV_rp {K : PySem.W.Frag} {H : Hp} (a b : Int) : RpAll K H (rgV a b) (rangeL a b) := by
  unfold rgV rangeL
  generalize (b - a).toNat = n
  generalize hl : List.range n = l
  clear hl
  induction l with
  | nil => exact .nil
  | cons i l ih => exact .cons (.int _) ih
theorem rgI'_some {r : Env} {ds : List D} (h : rgI' f g r = some ds) : ∃ a b, f r = some (.int a) ∧ g r = some (.int b) ∧ RgOk a b ∧ ds = rangeL a b := by
  simp only [rgI', Option.bind_eq_bind, Option.bind_eq_some_iff] at h
  obtain ⟨xs, h1, h2⟩ := h
  obtain ⟨a, b, e1, e2, b1, b2, rfl⟩ := rgI_some h1
  unfold fitL at h2
  split at h2
  · rename_i hz
    cases h2
    have hz : (rangeL a b).length ≤ 16777216 := of_decide_eq_true hz
    simp [rangeL] at hz
    obtain ⟨q1, q2⟩ := big_ok b1
    obtain ⟨q3, q4⟩ := big_ok b2
    exact ⟨a, b, e1, e2, ⟨q1, q2, q3, q4, by omega⟩, rfl⟩
  · cases h2
theorem e_tupRg1 (hm : X.mg "tuple" = none) (hm2 : X.mg "range" = none) (ha : DE X T a f) (hc : X.calm = true := by rfl) (hg : Gl X "tuple" := by rfl) (hg2 : Gl X "range" := by rfl) (he : starEach [a] X.env = (false, eval a X.env) :: starEach [] X.env := by rfl)
    (he2 : starEach [.Call (.Name "range" p2) [a] [] pos2] X.env = (false, eval (.Call (.Name "range" p2) [a] [] pos2) X.env) :: starEach [] X.env := by rfl) : DE X T (.Call (.Name "tuple" p) [.Call (.Name "range" p2) [a] [] pos2] [] pos) (tupI (rgI' (kE (.int 0)) f)) :=
  ⟨PE.imp (pe_tupRg hc hg hm (prg_1 hg2 hm2 ha.pe he) he2) fun σ H Q ⟨S, r, d, o, ef, q⟩ => by
    simp only [tupI, Option.bind_eq_bind, Option.bind_eq_some_iff] at ef
    obtain ⟨ds, e1, e2⟩ := ef
    cases e2
    obtain ⟨i, j, h1, h2, ok, rfl⟩ := rgI'_some e1
    cases h1
    refine ⟨S, r, _, o, h2, fun v H1 n1 rv => ?_⟩
    cases rv
    refine ⟨j, rfl, ok, fun p hp => ?_⟩
    obtain ⟨n2, r2⟩ := rp_newtup (S := S) n1.tabs (o.live.ext n1.ext) hp (rgV_rp 0 j)
    exact q _ _ (n1.trans n2) r2⟩
theorem e_tupRg2 (hm : X.mg "tuple" = none) (hm2 : X.mg "range" = none) (ha : DE X T a f) (hb : DE X T b g) (hc : X.calm = true := by rfl) (hg : Gl X "tuple" := by rfl) (hg2 : Gl X "range" := by rfl) (he : starEach [a, b] X.env = (false, eval a X.env) :: starEach [b] X.env := by rfl)
    (he3 : starEach [b] X.env = (false, eval b X.env) :: starEach [] X.env := by rfl)
    (he2 : starEach [.Call (.Name "range" p2) [a, b] [] pos2] X.env = (false, eval (.Call (.Name "range" p2) [a, b] [] pos2) X.env) :: starEach [] X.env := by rfl) (hpl : (backTo pos2 (starEach [b] X.env)).any (·.1) = false := by rfl) : DE X T (.Call (.Name "tuple" p) [.Call (.Name "range" p2) [a, b] [] pos2] [] pos) (tupI (rgI' f g)) :=
  ⟨PE.imp (pe_tupRg hc hg hm (prg_2 hg2 hm2 ha.pe hb.pe he he3 hpl) he2) fun σ H Q ⟨S, r, d, o, ef, q⟩ => by
    simp only [tupI, Option.bind_eq_bind, Option.bind_eq_some_iff] at ef
    obtain ⟨ds, e1, e2⟩ := ef
    cases e2
    obtain ⟨i, j, h1, h2, ok, rfl⟩ := rgI'_some e1
    refine ⟨S, r, _, o, h1, fun v H1 n1 rv => ?_⟩
    refine ⟨S, r, _, o.nxt n1, h2, fun u H2 n2 ru => ?_⟩
    cases rv
    cases ru
    refine ⟨i, j, rfl, rfl, ok, fun p hp => ?_⟩
    obtain ⟨n3, r3⟩ := rp_newtup (S := S) n2.tabs (o.live.ext (n1.trans n2).ext) hp (rgV_rp i j)
    exact q _ _ ((n1.trans n2).trans n3) r3⟩
theorem f_lstRg1 (hm : X.mg "list" = none) (hm2 : X.mg "range" = none) (ha : DE X T a f) (hc : X.calm = true := by rfl) (hg : Gl X "list" := by rfl) (hg2 : Gl X "range" := by rfl) (he : starEach [a] X.env = (false, eval a X.env) :: starEach [] X.env := by rfl)
    (he2 : starEach [.Call (.Name "range" p2) [a] [] pos2] X.env = (false, eval (.Call (.Name "range" p2) [a] [] pos2) X.env) :: starEach [] X.env := by rfl) : DF X T (.Call (.Name "list" p) [.Call (.Name "range" p2) [a] [] pos2] [] pos) (lstI (rgI' (kE (.int 0)) f)) :=
  ⟨PE.imp (pe_listRg hc hg hm (prg_1 hg2 hm2 ha.pe he) he2) fun σ H Q ⟨S, r, d, o, ef, q⟩ => by
    simp only [lstI, Option.bind_eq_bind, Option.bind_eq_some_iff] at ef
    obtain ⟨ds, e1, e2⟩ := ef
    cases e2
    obtain ⟨i, j, h1, h2, ok, rfl⟩ := rgI'_some e1
    cases h1
    refine ⟨S, r, _, o, h2, fun v H1 n1 rv => ?_⟩
    cases rv
    refine ⟨j, rfl, ok, fun p hp => ?_⟩
    obtain ⟨n2, r2⟩ := own_newlst (S := S) n1.tabs (o.live.ext n1.ext) hp (rgV_rp 0 j)
    exact q _ _ (n1.free hp) (n1.trans n2) r2⟩
end
end Dm
end

section
set_option Elab.async false
set_option linter.all false
set_option autoImplicit true
set_option maxRecDepth 100000
set_option maxHeartbeats 1000000
/-! DFun2: isinstance, index. -/
namespace Dm
open PySem PySem.Spec PyProof.Rows L2
def tyName : Ty → String
  | .int => "int"
  | .bool => "bool"
  | .str => "str"
  | .tup => "tuple"
def dName : D → String
  | .none => "NoneType"
  | .bool _ => "bool"
  | .int _ => "int"
  | .str _ => "str"
  | .list _ => "list"
  | .tuple _ => "tuple"
  | .dict _ => "dict"
theorem kit_all (t : Ty) (d : D) (h : isDict d = false) : kitB (dName d) (tyName t) = some (isiB t d) := by
  cases d with
  | dict _ => cases h
  | _ => cases t <;> simp only [dName, tyName, isiB] <;> decide +kernel
theorem rpB_ty {K : PySem.W.Frag} {S : List Addr} {H : Hp} {x : V} {d : D} (h : RpB K S H x d) (hd : isDict d = false) : TyX K H x (.type (dName d)) := by
  cases d with
  | none => rw [h.none]; exact .base .non
  | bool b => rw [h.bool]; exact .base (.bl b)
  | int i => rw [h.int]; exact .base (.int i)
  | str z => rw [h.str]; exact .base (.str z)
  | list ds =>
    obtain ⟨a, xs, rfl, hl, _⟩ := h.list
    rcases hl with (hl | ⟨o, hl⟩) | ⟨o, its, n, hk, hc, _⟩
    · exact .base (.lst hl)
    · exact .base (.frz hl)
    · exact .kList hk hc
  | tuple ds =>
    obtain ⟨a, xs, rfl, hl, _⟩ := h.tuple
    exact .base (.tup hl)
  | dict _ => cases hd
section
variable {X : Cx} {T : List Addr} {e a b c : Expr} {es rest : List Expr} {f g h : E} {fs : List E} {pos p p2 pos2 : Pos}
theorem pe_tyN {x : Str} {n : String} (hm : X.mg x = none) (hv : bootBuiltins x = some (.type n)) (hg : Gl X x) (hn : x ≠ "__name__") (hd : (x == ("__debug__" : Str)) = false) : PE X (.Name x pos) (tC (.ty n)) :=
  ⟨fun pins s σ H Q I q => ld_blt I hg hm hv ⟨.ty n, H, I, rfl, q⟩ hn hd⟩
theorem e_isi (t : Ty) {x : Str} (hm : X.mg "isinstance" = none) (hm2 : X.mg x = none) (ha : DE X T a f) (hv : bootBuiltins x = some (.type (tyName t)) := by decide +kernel) (hg : Gl X "isinstance" := by rfl) (hg2 : Gl X x := by rfl) (hn : x ≠ "__name__" := by decide) (hd : (x == ("__debug__" : Str)) = false := by decide)
    (he : starEach [a, .Name x p2] X.env = (false, eval a X.env) :: starEach [.Name x p2] X.env := by rfl) (he2 : starEach [.Name x p2] X.env = (false, eval (.Name x p2) X.env) :: starEach [] X.env := by rfl) (hpl : (backTo pos (starEach [.Name x p2] X.env)).any (·.1) = false := by rfl) :
    DE X T (.Call (.Name "isinstance" p) [a, .Name x p2] [] pos) (unE (isiD t) f) :=
  ⟨PE.imp (pe_callB call_isi hg hm (show bootBuiltins "isinstance" = some (.builtin "isinstance") by decide +kernel) (pa_cons ha.pe (pa_cons (pe_tyN (pos := p2) hm2 hv hg2 hn hd) pa_nil he2) he) (by decide) (by decide) he hpl) fun σ H Q ⟨S, r, d, o, ef, q⟩ => by
    obtain ⟨x0, e1, e2⟩ := unE_some ef
    unfold isiD at e2
    split at e2
    · cases e2
    · rename_i hdict
      cases e2
      refine ⟨S, r, x0, o, e1, fun v H1 n1 rv => ?_⟩
      exact ⟨v, .ty (tyName t), _, _, _, rfl, .ty _, rpB_ty (.inl rv) (by simpa using hdict), kit_ty (kit_all t x0 (by simpa using hdict)), q _ H1 n1 (.bl _)⟩⟩
/-- the first equal one -/
theorem indexL_some : ∀ {ds : List D} {d : D} {j : Nat}, indexL ds d = some j → (∃ z, ds[j]? = some z ∧ PyData.eqv z d = true) ∧ ∀ (m : Nat) (z : D), m < j → ds[m]? = some z → PyData.eqv z d = false := fun {ds d j} h => by
  unfold indexL at h
  rw [List.findIdx?_eq_some_iff_getElem] at h
  obtain ⟨h1, h2, h3⟩ := h
  refine ⟨⟨_, List.getElem?_eq_getElem h1, h2⟩, fun m z hm hz => ?_⟩
  obtain ⟨hl, e⟩ := List.getElem?_eq_some_iff.mp hz
  have := h3 m hm
  rw [e] at this
  simpa using this
def rIndexT (K : PySem.W.Frag) : V → List V → Hp → VK → Prop := fun x xs H Q => ∃ (a : Addr) (y : V) (d : D) (ds : List D) (j : Nat), x = V.ref a ∧ xs = [y] ∧ Dp K H (V.ref a) (.tuple ds) ∧ Dp K H y d ∧ plain (.tuple ds) = true ∧ plain d = true ∧ indexL ds d = some j ∧ Q (.int (j : Nat)) H
theorem mt_indexTD (hu : X.A.units + 100 < cLine) : MtR X "tuple.index" (rIndexT X.K) := by
  intro pins s σ H x xs v us Q I rx rxs ⟨a, y, d, ds, j, ex, exs, hl, hy, sl, sd, hj, q⟩
  subst ex exs
  obtain ⟨⟨z, hz, hzj⟩, hno⟩ := indexL_some hj
  cases rx
  obtain ⟨uy, rfl, ry⟩ := rxs.one
  obtain ⟨bs, r1⟩ := Dp.reads I d y uy hy ry
  have hxs : PyData.canLayAll0 ds = true := plain_items2 sl
  have hroom : X.A.units + 1 + min (PyData.depthAll ds) d.depth < cLine := room_in sd hu
  cases hl with
  | tup hs ha =>
    obtain ⟨its, rv, ⟨⟨cls, dd, data, sls⟩, ho, hc, n, hdt⟩, hlen⟩ := I.tuple hs
    simp only at hc hdt
    subst hc hdt
    obtain ⟨as, h4⟩ := Dp.readsAll I ds _ its ha rv
    have hn : its.length = ds.length := SeqAt.ReadsAll.length ds its as h4
    have hmap : its.map (SeqAt.readOf s.heap) = ds := SeqAt.readsAll_map ds its as hxs h4
    obtain ⟨hjd, _⟩ := List.getElem?_eq_some_iff.mp hz
    have hjs : j < its.toArray.size := by simp only [List.size_toArray]; omega
    have look : ∀ (m : Nat) (hm : m < its.toArray.size) (z' : D), ds[m]? = some z' → SeqAt.readOf s.heap its.toArray[m] = z' := fun m hm z' hz' => by
      have hml : m < its.length := by simpa using hm
      rw [← hmap, List.getElem?_map, List.getElem?_eq_getElem hml] at hz'
      simpa using hz'
    refine call_meets PySem.F.slot_tuple_index ⟨_, ho, rfl⟩ PySem.F.entry_tuple_index (PySem.F.args_tuple_index_2 _ _) (TI.tuple_indexAt a its.toArray n dd sls uy (fun u => PyData.eqv (SeqAt.readOf s.heap u) d) j hjs ?_ ?_)
      ⟨ho, SeqAt.items_eqAt (vs := its.toArray) (show ReadsAll s.heap its.toArray.toList ds as from h4) r1 hxs (plain_lay sd) hroom, ⟨.int (j : Nat), H, I.tok _, ⟨_, rfl⟩, q⟩⟩
    · show PyData.eqv (SeqAt.readOf s.heap its.toArray[j]) d = true
      rw [look j hjs z hz]
      exact hzj
    · intro m hm hmj
      have hmd : m < ds.length := by omega
      show PyData.eqv (SeqAt.readOf s.heap its.toArray[m]) d = false
      rw [look m hm _ (List.getElem?_eq_getElem hmd)]
      exact hno m _ hmj (List.getElem?_eq_getElem hmd)
theorem indexD_some {x y r : D} (h : indexD x y = some r) : plain x = true ∧ plain y = true ∧ ((∃ (ds : List D) (j : Nat), x = .list ds ∧ indexL ds y = some j ∧ r = .int (j : Int)) ∨ ∃ (ds : List D) (j : Nat), x = .tuple ds ∧ indexL ds y = some j ∧ r = .int (j : Int)) := by
  unfold indexD at h
  split at h
  · split at h
    · rename_i hb
      obtain ⟨h1, h2⟩ := Bool.and_eq_true_iff.mp hb
      simp only [Option.map_eq_some_iff] at h
      obtain ⟨j, h3, h4⟩ := h
      exact ⟨h1, h2, .inl ⟨_, j, rfl, h3, h4.symm⟩⟩
    · cases h
  · split at h
    · rename_i hb
      obtain ⟨h1, h2⟩ := Bool.and_eq_true_iff.mp hb
      simp only [Option.map_eq_some_iff] at h
      obtain ⟨j, h3, h4⟩ := h
      exact ⟨h1, h2, .inr ⟨_, j, rfl, h3, h4.symm⟩⟩
    · cases h
  · cases h
end
end Dm
end

section
set_option Elab.async false
set_option linter.all false
set_option autoImplicit true
set_option maxRecDepth 100000
set_option maxHeartbeats 1000000
/-! DBack: x[::-1], x[i::-1]. -/
namespace Dm
open PySem PySem.Spec PyProof.Rows L2
/-- how many, from which on -/
def backN (n : Nat) : Option Int → Nat
  | none => n
  | some i => if i < 0 then ((n : Int) + i + 1).toNat else min (i.toNat + 1) n
theorem backN_le (n : Nat) (o : Option Int) : backN n o ≤ n := by
  unfold backN
  cases o with
  | none => exact Nat.le_refl _
  | some i => simp only; split <;> omega
theorem backL_eq {α : Type} (xs : List α) (o : Option Int) : backL xs o = (xs.take (backN xs.length o)).reverse := by
  unfold backL backN
  cases o with
  | none => simp
  | some i => simp only; split <;> rfl
theorem adjust_back (lo : Option Int) (n : Nat) : Builtin.Slice.sliceAdjust lo none (-1) (n : Int) = ((backN n lo : Int) - 1, -1) := by
  have h1 : (-1 : Int) < 0 := by decide
  unfold Builtin.Slice.sliceAdjust backN
  simp only [h1, if_true]
  cases lo with
  | none => rfl
  | some i =>
    simp only
    by_cases hi : i < 0
    · rw [if_pos hi, if_pos hi]; congr 1; omega
    · rw [if_neg hi, if_neg hi]; congr 1; omega
theorem places_back (k : Nat) : Builtin.Slice.slicePlaces ((k : Int) - 1) (-1) (-1) = k := by
  unfold Builtin.Slice.slicePlaces
  have h1 : ¬ ((-1 : Int) > 0) := by decide
  rw [if_neg h1]
  split
  · have : ((k : Int) - 1 - -1 - 1) / (- -1) = (k : Int) - 1 := by
      rw [show (- -1 : Int) = 1 by decide, Int.ediv_one]; omega
    rw [this]; omega
  · omega
theorem pick_back (xs : Array Value) (k : Nat) (hk : k ≤ xs.size) : (List.range k).filterMap (fun (m : Nat) => xs[(((k : Int) - 1) + (m : Int) * (-1)).toNat]?) = (xs.toList.take k).reverse := by
  have e : ∀ m ∈ List.range k, xs[(((k : Int) - 1) + (m : Int) * (-1)).toNat]? = some (((xs.toList.take k).reverse)[m]?.getD .none) := fun m hm => by
    have hm := List.mem_range.mp hm
    have e1 : (((k : Int) - 1) + (m : Int) * (-1)).toNat = k - 1 - m := by omega
    have hl : (xs.toList.take k).length = k := by rw [List.length_take, Array.length_toList]; omega
    rw [e1, List.getElem?_reverse (by rw [hl]; exact hm), hl, List.getElem?_take_of_lt (by omega), Array.getElem?_toList, Array.getElem?_eq_getElem (by omega)]
    rfl
  have hl : (xs.toList.take k).reverse.length = k := by rw [List.length_reverse, List.length_take, Array.length_toList]; omega
  have e2 : ∀ (l : List Nat) (f : Nat → Option Value) (g : Nat → Value), (∀ m ∈ l, f m = some (g m)) → l.filterMap f = l.map g := fun l => by
    induction l with
    | nil => intro f g _; rfl
    | cons m l ih =>
      intro f g hfg
      rw [List.filterMap_cons, hfg m List.mem_cons_self, List.map_cons, ih f g fun x hx => hfg x (List.mem_cons_of_mem _ hx)]
  rw [e2 _ _ _ e]
  apply List.ext_getElem?
  intro i
  rw [List.getElem?_map]
  by_cases hi : i < k
  · rw [List.getElem?_range hi, List.getElem?_eq_getElem (by rw [hl]; exact hi)]
    simp only [Option.map_some]
    rw [List.getElem?_eq_getElem (by rw [hl]; exact hi)]
    rfl
  · rw [List.getElem?_eq_none (by simp; omega), List.getElem?_eq_none (by rw [hl]; omega)]; rfl
section
variable {prog : Program} {w : World} {A : Around} {E : Value → Shared → Prop} {s : Shared}
theorem applied_back {sl : Addr} {vl : Value} {u : Tok} {lo : Option Int} {n : Nat} {Q : Int × Int × Nat → Shared → Prop} (hs : s.heap.IsSliceOf sl vl .none (.int (-1) u)) (pl : IsPart vl lo) (h : Q ((backN n lo : Int) - 1, -1, backN n lo) s) :
    wpAny (model prog w) A (Builtin.Slice.sliceApplied (.ref sl) (pure (n : Int))) Q E s := by
  obtain ⟨os, hos, hcs, hds⟩ := id hs
  unfold Builtin.Slice.sliceApplied Builtin.Slice.sliceFields
  refine wpAny_bind (wpAny_bind (wpAny_field hos hds (x := vl) rfl (wpAny_bind (wpAny_field hos hds (x := .none) rfl (wpAny_bind (wpAny_field hos hds (x := .int (-1) u) rfl (wpAny_pure ?_)))))))
  refine wpAny_bind (HT.slicePart_ (.int (-1) u) ?_)
  show wpAny _ _ (if ((-1 : Int) == 0) = true then _ else _) _ _ s
  rw [if_neg (by decide)]
  refine wpAny_bind (HT.slicePart_ pl (wpAny_bind (HT.slicePart_ .none (wpAny_bind (wpAny_pure ?_)))))
  show wpAny _ _ (match Builtin.Slice.sliceAdjust lo none (-1) (n : Int) with | (lo, hi) => pure (lo, (-1 : Int), Builtin.Slice.slicePlaces lo hi (-1))) _ _ s
  rw [adjust_back lo n]
  show wpAny _ _ (pure ((backN n lo : Int) - 1, (-1 : Int), Builtin.Slice.slicePlaces ((backN n lo : Int) - 1) (-1) (-1))) _ _ s
  rw [places_back]
  exact wpAny_pure h
theorem tuple_back {t sl : Addr} {items : Array Value} {vl : Value} {u : Tok} {lo : Option Int} {Q : Value → Shared → Prop} (ht : IsTup s.heap t items) (hs : s.heap.IsSliceOf sl vl .none (.int (-1) u)) (pl : IsPart vl lo)
    (h : Q (.ref s.heap.objs.size) { s with heap := s.heap.push { cls := .type "tuple", data := .seq ((items.toList.take (backN items.size lo)).reverse).toArray } }) (hz : items.size ≤ sizeLine) : wpAny (model prog w) A (getItem (.ref t) (.ref sl)) Q E s := by
  have fit : sizeOk (.seq ((items.toList.take (backN items.size lo)).reverse).toArray) := by
    show ((items.toList.take (backN items.size lo)).reverse).toArray.size ≤ sizeLine
    have := backN_le items.size lo
    rw [List.size_toArray, List.length_reverse, List.length_take, Array.length_toList]
    omega
  obtain ⟨os, hos, hcs, hds⟩ := id hs
  have hTs : s.TypeIs (.ref sl) "slice" := ⟨os, hos, hcs⟩
  unfold getItem
  try with_reducible refine wpAny_holding ?_
  first | refine wpAny_bind (wpAny_pure ?_) | skip
  refine wpAny_bind (wpAny_sequenceKey ht.typeIs (by decide) ?_)
  refine wpAny_bind (wpAny_callSpecial?_slot (name := Str.ofString "__getitem__") ht.typeIs PyProof.Rows.slot_tuple_getitem (wpAny_call_entry PyProof.Rows.slot_tuple_getitem ht.typeIs entry_tuple_getitem ?_ (args_tuple_getitem _ _)))
  show wpAny _ _ (Builtin.Tuple.tupleItemsOf (.ref t) >>= _) _ _ s
  refine wpAny_bind (tupleItemsOf_ ht (wpAny_bind (wpAny_typeOf hTs ?_)))
  rw [if_pos (by decide)]
  refine wpAny_bind (applied_back hs pl ?_)
  show wpAny _ _ (if ((backN items.size lo : Int) - 1 == 0 && (-1 : Int) == 1 && backN items.size lo == items.size) = true then _ else _) _ _ s
  rw [if_neg (by simp), pick_back items _ (backN_le _ _)]
  first
    | exact wpAny_bind (m := Builtin.Tuple.tupleExact _) (wpAny_newObj_type (wpAny_pure ⟨_, rfl, wpAny_pure h⟩) fit)
    | exact wpAny_bind (m := Builtin.Tuple.tupleExact _) (wpAny_newObj_type (wpAny_bind (wpAny_pure (wpAny_pure ⟨_, rfl, wpAny_pure h⟩))) fit)
    | exact wpAny_bind (wpAny_bind (m := Builtin.Tuple.tupleExact _) (wpAny_newObj_type (wpAny_pure (wpAny_pure ⟨_, rfl, wpAny_pure h⟩)) fit))
    | exact wpAny_bind (wpAny_bind (m := Builtin.Tuple.tupleExact _) (wpAny_newObj_type (wpAny_pure ⟨_, rfl, wpAny_pure h⟩) fit))
end
end Dm
end

section
set_option Elab.async false
set_option linter.all false
set_option autoImplicit true
set_option maxRecDepth 100000
set_option maxHeartbeats 1000000
/-! DBack2: x[::-1], x[i::-1], and the place of an item in it. -/
namespace Dm
open PySem PySem.Spec PyProof.Rows L2
theorem backE_some {f : E} {lo : Option E} {r : Env} {d : D} (h : backE f lo r = some d) : ∃ x l, f r = some x ∧ partE lo r = some l ∧ backD x l = some d := by
  simp only [backE, Option.bind_eq_bind, Option.bind_eq_some_iff] at h
  obtain ⟨x, h1, l, h2, h3⟩ := h
  exact ⟨x, l, h1, h2, h3⟩
theorem RpAll.back {K : PySem.W.Frag} {H : Hp} {xs : List V} {ds : List D} (r : RpAll K H xs ds) (o : Option Int) : RpAll K H ((xs.take (backN xs.length o)).reverse) (backL ds o) := by
  rw [backL_eq, r.length]
  exact (r.take _).reverse
theorem Vals.back {xs : List V} {us : List Value} (r : Vals xs us) (k : Nat) : Vals ((xs.take k).reverse) ((us.take k).reverse) := by
  refine Vals.reverse ?_
  induction r generalizing k with
  | nil => rw [List.take_nil, List.take_nil]; exact .nil
  | cons a t ih =>
    cases k with
    | zero => exact .nil
    | succ k => exact .cons a (ih k)
section
variable {X : Cx} {T : List Addr} {e a b c : Expr} {es rest : List Expr} {f g h : E} {fs : List E} {pos p p1 p2 p3 p4 : Pos} {lo : Option Expr} {fl : Option E} {k : Nat}
theorem ev_back {pins : List (Addr × Obj)} {s : Shared} {σ : L2.St} {H : Hp} {S : List Addr} {r : Env} {d : D} (ha : DB X T a f) (hl : DO X T lo fl) (I : Inv X pins σ H s) (eo : EnvOk X.K T S H σ r) (ef : backE f fl r = some d) :
    wpAny (model X.prog X.w) X.A (eval (.Subscript a (.Slice lo none (some (.UnaryOp .USub (.Constant (.int 1) k p1) p2)) p3) pos) X.env)
      (fun v s' => ∃ p H', v = .ref p ∧ Inv X pins σ H' s' ∧ Nxt T H H' ∧ Rp X.K (mns S H') (.ref p) d ∧ ∃ ob, s'.heap.get? p = some ob ∧ ob.dict = none) X.xe s := by
  obtain ⟨x0, l0, e1, e2, e3⟩ := backE_some ef
  refine Subscript_ (thn (ha.pe.run pins s σ H (fun v H' => Nxt T H H' ∧ RpB X.K S H' v x0) I ⟨S, r, x0, eo, e1, fun v H' n rv => ⟨n, rv⟩⟩) fun v s1 ⟨x, H1, I1, r1, n1, rx⟩ => ?_)
  have hst : PO X (some (.UnaryOp .USub (.Constant (.int 1) k p1) p2)) (tPart (tUn (rU fun i => .int (-i)) (tC (.int 1)))) := po_some (pe_un un_neg pe_int)
  refine wpAny_Slice (thn (hl.po.run pins s1 σ H1 (fun o H' => o = l0 ∧ Nxt T H1 H') I1 ⟨S, r, l0, eo.nxt n1, e2, fun H' n => ⟨rfl, n⟩⟩) fun vl s2 ⟨l, H2, I2, pl, el, n2⟩ => ?_)
  subst el
  refine thn (po_none.run pins s2 σ H2 (fun o H3 => o = none ∧ H3 = H2) I2 ⟨rfl, rfl⟩) fun vu s3 ⟨u, H3, I3, pu, eu, e4⟩ => ?_
  subst eu e4
  refine thn (hst.run pins s3 σ H3 (fun o H4 => o = some (-1) ∧ H4 = H3) I3 ⟨1, rfl, -1, rfl, rfl, rfl⟩) fun vs s4 ⟨o, H4, I4, ps, eo4, e5⟩ => ?_
  subst eo4 e5
  cases pu
  cases ps with
  | int i tk =>
  have I5 : Inv X pins σ H4 { s4 with heap := s4.heap.push { cls := .type "slice", data := .fields #[vl, .none, .int (-1) tk] } } := I4.kept (t' := s4.toks) fun b ob q => Heap.get?_push_of_some _ q
  have n12 := n1.trans n2
  have rx2 := RpB.nxt n2 rx
  have t4 : Dm.Tabs T H4 := n2.tabs
  have l4 : Live S H4 := eo.live.ext n12.ext
  unfold backD at e3
  split at e3
  · rename_i ds
    cases e3
    obtain ⟨t, xs, rfl, hx, rr⟩ := rx2.tuple
    cases r1
    obtain ⟨its, rv, ht, hz⟩ := I5.tuple (.of hx)
    have hlen := rv.length
    show wpAny (model X.prog X.w) X.A (subscriptTail a (.Slice lo none (some (.UnaryOp .USub (.Constant (.int 1) k p1) p2)) p3) (.ref t) (.ref s4.heap.objs.size)) _ X.xe _
    refine tail_any (ops := [.ref t, .ref s4.heap.objs.size]) ht.typeIs (PyProof.Rows.slot_tuple_getitem.lookup) ?_ (by with_unfolding_all rfl)
    refine tuple_back ht (Heap.IsSliceOf.new _ vl .none (.int (-1) tk)) pl ?_ (by rw [List.size_toArray]; omega)
    have hn : H4 (s4.heap.push { cls := .type "slice", data := .fields #[vl, .none, .int (-1) tk] }).objs.size = none := I5.hok.fresh (Nat.le_refl _)
    have e6 : (its.toArray.toList.take (backN its.toArray.size l)).reverse = (its.take (backN xs.length l)).reverse := by rw [List.size_toArray, ← hlen]
    obtain ⟨n6, r6⟩ := rp_newtup t4 l4 hn (rr.back l)
    refine ⟨_, _, rfl, I5.laid (t' := s4.toks) (o := .tup ((xs.take (backN xs.length l)).reverse)) (fun b ob q => Heap.get?_push_of_some _ q) (Nat.le_refl _) ?_, n12.trans n6, r6, _, Heap.get?_push_size _ rfl, rfl⟩
    refine ⟨?_, (its.take (backN xs.length l)).reverse, Vals.back rv _, ?_⟩
    · have := backN_le xs.length l
      rw [List.length_reverse, List.length_take]; omega
    · rw [← e6]; exact IsTup.new _ _
  · rename_i ds
    split at e3
    · cases e3
      cases pl
      obtain ⟨t, xs, rfl, hx, rr⟩ := rx2.list
      cases r1
      obtain ⟨its, rv, ht, hz⟩ := I5.list hx
      have hlen := rv.length
      show wpAny (model X.prog X.w) X.A (subscriptTail a (.Slice lo none (some (.UnaryOp .USub (.Constant (.int 1) k p1) p2)) p3) (.ref t) (.ref s4.heap.objs.size)) _ X.xe _
      refine tail_any (ops := [.ref t, .ref s4.heap.objs.size]) ht.isList.typeIs (PySem.slot_list_getitem.lookup) ?_ (by with_unfolding_all rfl)
      refine wpAny_getItem_list_slice ht.isList (Heap.IsSliceOf.new _ .none .none (.int (-1) tk)) .none .none (.int (-1) tk) (by decide) ?_ (by rw [List.size_toArray]; omega)
      rw [PySem.W.krv_pick]
      have hn : H4 (s4.heap.push { cls := .type "slice", data := .fields #[.none, .none, .int (-1) tk] }).objs.size = none := I5.hok.fresh (Nat.le_refl _)
      obtain ⟨n6, o6⟩ := own_newlst t4 l4 hn rr.reverse
      refine ⟨_, _, rfl, I5.laid (t' := s4.toks) (o := .lst xs.reverse) (fun b ob q => Heap.get?_push_of_some _ q) (Nat.le_refl _) ?_, n12.trans n6, own_rp (T := T) l4 hn o6, _, Heap.get?_push_size _ rfl, rfl⟩
      exact ⟨by rw [List.length_reverse]; exact hz, _, 0, Vals.reverse rv, Heap.get?_push_size _ rfl⟩
    · cases e3
  · cases e3
theorem e_back (ha : DB X T a f) (hl : DO X T lo fl) : DE X T (.Subscript a (.Slice lo none (some (.UnaryOp .USub (.Constant (.int 1) k p1) p2)) p3) pos) (backE f fl) :=
  ⟨⟨fun pins s σ H Q I ⟨S, r, d, eo, ef, q⟩ => thn (ev_back ha hl I eo ef) fun v s' ⟨p, H', e, I', n, rp, _⟩ => ⟨.ref p, H', I', e, q _ H' n rp⟩⟩⟩
theorem e_backIx (hu : X.A.units + 100 < cLine) (ha : DB X T a f) (hl : DO X T lo fl) (hb : DE X T b g)
    (hbase : attributeBase (.Subscript a (.Slice lo none (some (.UnaryOp .USub (.Constant (.int 1) k p1) p2)) p3) p4) "index" X.env (eval (.Subscript a (.Slice lo none (some (.UnaryOp .USub (.Constant (.int 1) k p1) p2)) p3) p4) X.env) = eval (.Subscript a (.Slice lo none (some (.UnaryOp .USub (.Constant (.int 1) k p1) p2)) p3) p4) X.env := by rfl)
    (hfew : ((backTo pos (starEach [b] X.env)).all (fun x => !x.1) && (backToKw pos (keywordEach [] X.env)).all (fun x => x.1.isSome) && decide ([b].length + ([] : List Keyword).length + (if ([] : List Keyword).isEmpty then 0 else 1) < 30)) = true := by rfl)
    (hline : (p.endLine == pos.line) = true := by rfl) (hs1 : starEach [b] X.env = (false, eval b X.env) :: starEach [] X.env := by rfl) :
    DE X T (.Call (.Attribute (.Subscript a (.Slice lo none (some (.UnaryOp .USub (.Constant (.int 1) k p1) p2)) p3) p4) "index" p) [b] [] pos) (opE tixD (backE f fl) g) := by
  refine ⟨⟨fun pins s σ H Q I ⟨S, r, d, eo, ef, q⟩ => ?_⟩⟩
  obtain ⟨x, y, e1, e2, e3⟩ := opE_some ef
  unfold tixD at e3
  split at e3
  · rename_i ds
    refine wpAny_Call_method_late hbase hfew hline rfl (thn (ev_back ha hl I eo e1) fun v s1 ⟨p, H1, ev, I1, n1, rp, ob, ho, hod⟩ => ?_)
    subst ev
    obtain ⟨a1, xs, e4, hx, rr⟩ := RpB.tuple (.inl rp)
    cases e4
    obtain ⟨its, rv, ht, hz⟩ := I1.tuple (.of hx)
    refine ⟨"tuple", "tuple.index", PySem.F.plainAttrs_tuple, PySem.F.slot_tuple_index, PySem.F.type_tuple_index, ht.typeIs, fun a2 e5 => by cases e5; exact ⟨ob, ho, hod⟩, ?_⟩
    have hA := (a_cons hb (a_nil (X := X) (T := T)) hs1).pa.run pos pins s1 σ H1 (fun vs H' => ∃ v, vs = [v] ∧ Nxt T H1 H' ∧ Rp X.K (mns S H') v y) I1 ⟨S, r, [y], eo.nxt n1, by simp [argsE, e2], fun vs H' n rs => by
      cases rs with
      | cons r1 r2 => cases r2; exact ⟨_, rfl, n, r1⟩⟩
    rw [hs1] at hA ⊢
    refine Calls.callWith_builtin (by rfl) (Calls.evalArgs_plain ?_)
    refine thn hA fun us s2 ⟨vs, H2, I2, r2, y1, evs, n2, ry⟩ => ?_
    subst evs
    obtain ⟨h1, h2, h3⟩ := indexD_some e3
    rcases h3 with ⟨_, _, z, _⟩ | ⟨ds', j, z, h4, h5⟩
    · cases z
    · cases z
      subst h5
      exact mt_indexTD hu pins s2 σ H2 (.ref p) [y1] (.ref p) us Q I2 rfl r2 ⟨p, y1, y, ds, j, rfl, rfl, RpB.dp (.inl (rp.nxt n2)) h1, RpB.dp (.inl ry) h2, h1, h2, h4, q _ H2 (n1.trans n2) (.int _)⟩
  · cases e3
end
end Dm
end

section
set_option Elab.async false
set_option linter.all false
set_option autoImplicit true
set_option maxRecDepth 100000
set_option maxHeartbeats 1000000
/-! DSort: sorted. -/
namespace PySem.W
open PySem PySem.Calls PyProof.Rows SeqAt
section
variable {prog : Program} {w : World} {A : Around} {E : Value → Shared → Prop} {s : Shared}
theorem dm_tuple_lt {Q : Value → Shared → Prop} {l b : Addr} {items items2 : Array Value} {e r : Nat → Bool} (hl : s.heap.IsTuple l items) (hb : s.heap.IsTuple b items2)
    (he : ∀ j (h1 : j < items.size) (h2 : j < items2.size), EqAt A.in1 s items[j] items2[j] (e j)) (hr : ∀ j (h1 : j < items.size) (h2 : j < items2.size), e j = false → SeqAt.RcLt A.in1 s items[j] items2[j] (r j))
    (h : Q (.bool (SeqAt.firstLt e r (decide (items.size < items2.size)) (List.range (min items.size items2.size)))) s) : wpAny (model prog w) A (call (.builtin "tuple.__lt__") [.ref l, .ref b]) Q E s := by
  obtain ⟨⟨cls, dd, data, sl⟩, ho, hc, n, hd⟩ := id hl
  obtain ⟨⟨cls2, dd2, data2, sl2⟩, ho2, hc2, n2, hd2⟩ := id hb
  simp only at hc hd hc2 hd2
  subst hc hd hc2 hd2
  exact call_meets PySem.F.slot_tuple_lt ⟨_, ho, rfl⟩ PySem.F.entry_tuple_lt (PySem.F.args_tuple_lt_2 _ _) (SeqAt.tuple_ltAt l b items items2 n n2 dd dd2 sl sl2 e r) ⟨ho, ho2, he, hr, h⟩
/-- one tuple against another by its type's own order -/
theorem dm_one_tuple {xs ys : List PyData} {a b : Value} {as bs : List Addr} {Q : Bool → Shared → Prop} (ra : Reads s.heap a (.tuple xs) as) (rb : Reads s.heap b (.tuple ys) bs) (h : alike (.tuple xs) (.tuple ys) = true)
    (hu : A.units + min (PyData.tuple xs).depth (PyData.tuple ys).depth < cLine) (hq : Q (dataLt (.tuple xs) (.tuple ys)) s) : wpAny (model prog w) A (oneLt' true a b) Q E s := by
  have hal : alikeAll xs ys = true := by simpa [alike] using h
  cases ra with
  | @tuple l o vs n _ as₁ h1 h2 h3 h4 =>
    cases rb with
    | @tuple l' o' vs' n' _ bs₁ k1 k2 k3 k4 =>
      have n1 : vs.size = xs.length := by simpa using SeqAt.ReadsAll.length _ _ _ h4
      have n2 : vs'.size = ys.length := by simpa using SeqAt.ReadsAll.length _ _ _ k4
      rw [dataLt_tuple, ← firstLt_toks xs ys hal, ← n1, ← n2] at hq
      rw [oneLt'_eq]
      simp only [if_true]
      refine wpAny_bind (wpAny_cRoomFor (SeqAt.room_here hu) ?_)
      refine wpAny_bind (wpAny_callSpecialIfBound?_slot (T := "tuple") ⟨_, h1, h2⟩ PySem.F.slot_tuple_lt (dm_tuple_lt (e := pairEq xs ys) (r := fun j => dataLt (xs.getD j .none) (ys.getD j .none)) ⟨_, h1, h2, _, h3⟩ ⟨_, k1, k2, _, k3⟩ (fun j j1 j2 => ?_) (fun j j1 j2 hj => ?_) ?_))
      · have := eqAt_alikeAll xs ys A.in1 s vs.toList vs'.toList _ _ h4 k4 hal (SeqAt.room_in hu) j (by simpa using j1) (by simpa using j2)
        simpa using this
      · have := rcLt_alikeAll xs ys A.in1 s vs.toList vs'.toList _ _ h4 k4 hal (SeqAt.room_in hu) j (by simpa using j1) (by simpa using j2) hj
        simpa using this
      · exact wpAny_truthy_bool hq
theorem dm_mapM {α β : Type} {f : α → Sem β} {g : α → β} : ∀ (l : List α) {Q : List β → Shared → Prop}, (∀ v ∈ l, ∀ (Q' : β → Shared → Prop), Q' (g v) s → wpAny (model prog w) A (f v) Q' E s) → Q (l.map g) s → wpAny (model prog w) A (l.mapM f) Q E s
  | [], _, _, h => by rw [List.mapM_nil]; exact wpAny_pure h
  | x :: l, Q, hf, h => by
    rw [List.mapM_cons]
    exact wpAny_bind (hf x (.head _) _ (wpAny_bind (dm_mapM l (Q := fun bs s' => wpAny (model prog w) A (pure (g x :: bs)) Q E s') (fun v hv => hf v (.tail _ hv)) (wpAny_pure h))))
/-- the first item of a tuple at the heap -/
def dm_first (h : Heap) : Value → Option Value
  | .ref a => match h.get? a with
    | some o => match o.data with
      | .seq xs _ => xs[0]?
      | _ => none
    | none => none
  | _ => none
theorem dm_first_eq {h : Heap} {a : Addr} {o : Obj} {xs : Array Value} {n : Nat} (e : h.get? a = some o) (d : o.data = .seq xs n) : dm_first h (.ref a) = xs[0]? := by
  simp only [dm_first, e, d]
/-- keys that are tuples, the first one empty -/
theorem dm_kind {vs : List Value} {ds : List PyData} {Q : SortKind → Shared → Prop} (h2 : 2 ≤ vs.length) (e : EachIs (fun v d => ∃ as, Reads s.heap v d as) vs ds) (ht : ∀ d, d ∈ ds → ∃ xs, d = .tuple xs) (h0 : ∃ r, ds = .tuple [] :: r) (h : Q oneType' s) :
    wpAny (model prog w) A (keyKind' vs.toArray) Q E s := by
  have tup : ∀ v ∈ vs, ∃ a o xs n, v = Value.ref a ∧ s.heap.get? a = some o ∧ o.cls = .type "tuple" ∧ o.data = .seq xs n := fun v hv => by
    obtain ⟨d, hd, as, r⟩ := e.left v hv
    obtain ⟨xs, rfl⟩ := ht d hd
    cases r with
    | @tuple l o vs n _ _ h1 h2 h3 h4 => exact ⟨l, o, vs, n, rfl, h1, h2, h3⟩
  obtain ⟨r, rfl⟩ := h0
  cases e with
  | @cons v _ vs' _ hv e' =>
  obtain ⟨as, rv⟩ := hv
  have first : dm_first s.heap v = none := by
    cases rv with
    | @tuple l o vs n _ _ h1 h2 h3 h4 =>
      have : vs.toList = [] := by
        generalize hz : vs.toList = zs at h4
        cases h4; rfl
      rw [dm_first_eq h1 h3]
      have hv : vs = #[] := by rw [← Array.toList_eq_nil_iff]; exact this
      rw [hv]; rfl
  rw [keyKind'_eq, List.mapM_toArray, map_eq_pure_bind]
  refine wpAny_bind (wpAny_bind (dm_mapM (g := dm_first s.heap) _ (fun u hu Q' hq => ?_) (wpAny_pure ?_)))
  · obtain ⟨a, o, xs, n, rfl, o1, o2, o3⟩ := tup u hu
    rw [kas_first_eq]
    refine wpAny_bind (wpAny_typeOf (T := "tuple") ⟨o, o1, o2⟩ ?_)
    rw [if_neg (by decide)]
    refine wpAny_bind (wpAny_listItems o1 o3 (wpAny_pure ?_))
    rw [dm_first_eq o1 o3] at hq
    exact hq
  · rw [if_neg, if_neg]
    · rw [oneTypeOnly'_eq, List.mapM_toArray, map_eq_pure_bind]
      refine wpAny_bind (wpAny_bind (wpAny_bind (dm_mapM (g := fun _ => Value.type "tuple") _ (fun u hu Q' hq => ?_) (wpAny_pure ?_))))
      · obtain ⟨a, o, xs, n, rfl, o1, o2, o3⟩ := tup u hu
        exact wpAny_typeOf (T := "tuple") ⟨o, o1, o2⟩ hq
      · have hall : ((List.map (fun _ => Value.type "tuple") (v :: vs')).toArray.all fun x => x == Value.type "tuple") = true := by
          simp only [List.all_toArray, List.all_map, List.all_eq_true]
          intro _ _
          exact beq_self_eq_true _
        have hz : (List.map (fun _ => Value.type "tuple") (v :: vs')).toArray[0]? = some (Value.type "tuple") := by simp
        rw [hz]
        simp only [hall, if_true]
        exact wpAny_pure (wpAny_pure h)
    · simp [first]
    · simp [first]
theorem dm_sorts {vs : List Value} {ds : List PyData} (e : EachIs (fun v d => ∃ as, Reads s.heap v d as) vs ds) (hal : AllAlike ds) (ht : ∀ d, d ∈ ds → ∃ xs, d = .tuple xs) (h0 : ∃ r, ds = .tuple [] :: r) (hu : ∀ d, d ∈ ds → A.units + d.depth < cLine) : SortsAt prog w A s (dataKind s.heap ds) vs := by
  refine ⟨fun v hv => ?_, oneType', ?_, fun h2 E Q hq => dm_kind h2 e ht h0 hq⟩
  · obtain ⟨d, hd, as, r⟩ := e.left v hv
    exact ⟨_, dataKind_some hal hd r⟩
  · intro E x y a b Q ha hb hq
    obtain ⟨d, as, hd, ra, rfl⟩ := dataKind_inv ha
    obtain ⟨d', as', hd', rb, rfl⟩ := dataKind_inv hb
    rw [keyLt'_oneType]
    have hdd := hal d hd d' hd'
    obtain ⟨xs, rfl⟩ := ht d hd
    obtain ⟨ys, rfl⟩ := ht d' hd'
    exact dm_one_tuple ra rb hdd (Nat.lt_of_le_of_lt (Nat.add_le_add_left (Nat.min_le_left _ _) _) (hu _ hd)) hq
theorem dm_sorted {β : Type} {vs : List Value} {bs : List β} {enc : β → PyData} {R : Value → β → Prop} {l : Addr} {Q : Value → Shared → Prop} (hl : s.heap.IsList l vs.toArray) (e : EachIs R vs bs) (er : EachIs (fun v b => ∃ as, Reads s.heap v (enc b) as) vs bs) (hal : AllAlike (bs.map enc))
    (ht : ∀ d, d ∈ bs.map enc → ∃ xs, d = .tuple xs) (h0 : ∃ r, bs.map enc = .tuple [] :: r) (hL : bs.length ≤ sizeLine) (hu : ∀ b, b ∈ bs → A.units + 2 + (enc b).depth < cLine)
    (h : ∀ out, out.length = bs.length → EachIs R out (bs.mergeSort (dataLe false enc)) → Q (.ref (s.heap.objs.size + 1)) { s with heap := sortedAll s.heap vs (List.toArray out) }) : wpAny (model prog w) A (call (.builtin "sorted") [.ref l]) Q E s := by
  have er' : EachIs (fun v b => ∃ as, Reads (sortingHeap (copyHeap s.heap vs) (s.heap.objs.size + 1) vs) v (enc b) as) vs bs := er.mono fun _ _ ⟨as, r⟩ => ⟨as, PyProof.Rows.Reads.keeps (fun _ _ => sorting_copy_old) r⟩
  have so := dm_sorts (prog := prog) (w := w) (A := A.in1.in1) (s := { s with heap := sortingHeap (copyHeap s.heap vs) (s.heap.objs.size + 1) vs }) (each_map (R := fun v d => ∃ as, Reads (sortingHeap (copyHeap s.heap vs) (s.heap.objs.size + 1) vs) v d as) enc er') hal ht h0 (bound_map hu)
  exact sorted_vals hl so (by rw [e.length]; exact hL) (h _ (by rw [sortVals_length false rfl]; exact e.length) (sortVals_data false e er' hal))
end
end PySem.W
end

section
set_option Elab.async false
set_option linter.all false
set_option autoImplicit true
set_option maxRecDepth 100000
set_option maxHeartbeats 1000000
/-! DSort2: sorted(xs), xs a list. -/
namespace Dm
open PySem PySem.Spec PyProof.Rows L2
/-- a value and the datum that it stands for -/
def Pr (K : PySem.W.Frag) (H : Hp) (v : Value) (b : V × D) : Prop := RelV b.1 v ∧ Rp K H b.1 b.2
theorem each_pr {K : PySem.W.Frag} {H : Hp} : ∀ {xs : List V} {us : List Value} {ds : List D}, Vals xs us → RpAll K H xs ds → PySem.W.EachIs (Pr K H) us (xs.zip ds)
  | _, _, _, .nil, .nil => .nil
  | _, _, _, .cons a t, .cons b u => .cons ⟨a, b⟩ (each_pr t u)
theorem pr_each {K : PySem.W.Frag} {H : Hp} : ∀ {us : List Value} {bs : List (V × D)}, PySem.W.EachIs (Pr K H) us bs → Vals (bs.map (·.1)) us ∧ RpAll K H (bs.map (·.1)) (bs.map (·.2))
  | _, _, .nil => ⟨.nil, .nil⟩
  | _, _, .cons a t => ⟨.cons a.1 (pr_each t).1, .cons a.2 (pr_each t).2⟩
theorem zip_snd {α β : Type} : ∀ {xs : List α} {ds : List β}, xs.length = ds.length → (xs.zip ds).map (·.2) = ds
  | [], [], _ => rfl
  | _ :: _, _ :: _, h => by rw [List.zip_cons_cons, List.map_cons, zip_snd (Nat.succ.inj h)]
  | [], _ :: _, h => by cases h
  | _ :: _, [], h => by cases h
theorem reads_zip {h : Heap} : ∀ {us : List Value} {ds : List D} {as : List Addr} {xs : List V}, PySem.W.EachIs (fun v d => ∃ as, Reads h v d as) us ds → xs.length = ds.length → PySem.W.EachIs (fun v (b : V × D) => ∃ as, Reads h v b.2 as) us (xs.zip ds)
  | _, _, _, [], .nil, _ => .nil
  | _, _, as, x :: xs, .cons a t, h => .cons a (reads_zip (as := as) t (Nat.succ.inj h))
  | _, _, _, [], .cons _ _, h => by cases h
theorem plainAll_lay : ∀ {ds : List D}, (∀ d ∈ ds, plain d = true) → PyData.canLayAll0 ds = true
  | [], _ => by simp [PyData.canLayAll0]
  | d :: ds, h => by
    rw [PyData.canLayAll0, plain_lay (h d List.mem_cons_self), plainAll_lay fun x hx => h x (List.mem_cons_of_mem _ hx)]
    rfl
theorem sortOk_all {ds : List D} (h : sortOk ds = true) : (∀ a ∈ ds, ∀ b ∈ ds, PySem.W.alike a b = true) ∧ (∀ a ∈ ds, a ≠ .none) ∧ ∀ a ∈ ds, plain a = true := by
  unfold sortOk at h
  rw [List.all_eq_true] at h
  refine ⟨fun a ha b hb => ?_, fun a ha z => ?_, fun a ha => ?_⟩
  · have := h a ha
    simp only [Bool.and_eq_true, List.all_eq_true] at this
    exact this.1 b hb
  · have := h a ha
    simp only [Bool.and_eq_true] at this
    rw [z] at this
    exact absurd this.2.1 (by simp [isNone])
  · have := h a ha
    simp only [Bool.and_eq_true] at this
    exact this.2.2
/-- the two kinds of rows that are sorted -/
theorem headT_or {ds : List D} (hs : sortOk ds = true) (h : headT ds = true) : PySem.W.Sortable ds ∨ ((∀ d, d ∈ ds → ∃ xs, d = .tuple xs) ∧ ∃ r, ds = .tuple [] :: r) := by
  obtain ⟨hal, hn, _⟩ := sortOk_all hs
  have same : ∀ a ∈ ds, ∀ b ∈ ds, ∀ xs, a = .tuple xs → ∃ ys, b = .tuple ys := fun a ha b hb xs e => by
    have := hal a ha b hb
    rw [e] at this
    cases b <;> first | exact ⟨_, rfl⟩ | exact absurd this (by simp [PySem.W.alike])
  unfold headT at h
  rcases Bool.or_eq_true_iff.mp h with h | h
  · left
    rw [List.all_eq_true] at h
    by_cases ht : ∃ a ∈ ds, ∃ xs, a = .tuple xs
    · obtain ⟨a, ha, xs, e⟩ := ht
      refine .inl fun d hd => ?_
      obtain ⟨ys, rfl⟩ := same a ha d hd xs e
      cases ys with
      | nil => exact absurd (h _ hd) (by simp [emptyT])
      | cons y ys => exact ⟨y, ys, rfl⟩
    · exact .inr fun d hd => ⟨hn d hd, fun xs e => ht ⟨d, hd, xs, e⟩⟩
  · cases ds with
    | nil => exact .inl (.inl fun d hd => by cases hd)
    | cons d0 r =>
      have e0 : d0 = .tuple [] := by
        simp only at h
        unfold emptyT at h
        split at h
        · rfl
        · cases h
      subst e0
      exact .inr ⟨fun d hd => same _ List.mem_cons_self d hd [] rfl, r, rfl⟩
section
variable {X : Cx} {T : List Addr} {e a b c : Expr} {es rest : List Expr} {f g h : E} {fs : List E} {pos p p2 pos2 : Pos}
theorem cd_sort (hu : X.A.units + 100 < cLine) : CallR X (.builtin "sorted") (rF X.K T (on1 sortLD)) := by
  intro pins s σ H xs us Q I rx hh
  obtain ⟨S, d, x, r, t, l, rfl, hx, eo, q⟩ := rF_one hh
  unfold sortLD at eo
  split at eo
  · rename_i ds
    simp only [Option.map_eq_some_iff] at eo
    obtain ⟨zs, h1, rfl⟩ := eo
    unfold sortL at h1
    split at h1
    · rename_i hb
      cases h1
      simp only [Bool.and_eq_true] at hb
      obtain ⟨⟨hs, ht⟩, hz⟩ := hb
      have hz := lenOk_le hz
      obtain ⟨hal, hn, hp⟩ := sortOk_all hs
      obtain ⟨a, ys, rfl, hl, rr⟩ := hx.list
      obtain ⟨u, rfl, ru⟩ := rx.one
      cases ru
      obtain ⟨its, rv, pl, hlen⟩ := I.list hl
      have hyl := rr.length
      obtain ⟨as, h4⟩ := Dp.readsAll I ds ys its (RpAll.dp (rr.le le_full) (plainAll_lay hp)) rv
      have er0 : PySem.W.EachIs (fun v d => ∃ as, Reads s.heap v d as) its ds := by
        have := PySem.W.readsAll_each (h := s.heap) (fun d : D => d) (vs := its) (bs := ds) (as := as) (by rw [List.map_id']; exact h4)
        exact this
      have er := reads_zip (as := as) (xs := ys) er0 hyl
      have ep := each_pr (H := mns S H) rv rr
      have em : (ys.zip ds).map (·.2) = ds := zip_snd hyl
      have hbl : (ys.zip ds).length = ds.length := by rw [List.length_zip]; omega
      have fin : ∀ out : List Value, out.length = (ys.zip ds).length → PySem.W.EachIs (Pr X.K (mns S H)) out ((ys.zip ds).mergeSort (PySem.W.dataLe false (·.2))) → EP X pins σ Q (.ref (s.heap.objs.size + 1)) { s with heap := sortedAll s.heap its (List.toArray out) } := fun out ho e => by
        obtain ⟨rv2, rr2⟩ := pr_each e
        have es : ((ys.zip ds).mergeSort (PySem.W.dataLe false (·.2))).map (·.2) = ds.mergeSort leB := by
          rw [List.map_mergeSort (r := PySem.W.dataLe false (fun b : V × D => b.2)) (s := leB) (fun a _ b _ => by rw [PySem.W.dataLe_eq]; rfl), em]
        rw [es] at rr2
        have hn : H (s.heap.objs.size + 1) = none := I.hok.fresh (Nat.le_succ _)
        obtain ⟨c, hc⟩ := sortedAll_at s.heap its (List.toArray out)
        obtain ⟨n1, o1⟩ := own_newlst t l hn rr2
        refine ⟨.ref (s.heap.objs.size + 1), _, I.laid (t' := s.toks) (a := s.heap.objs.size + 1) (o := .lst (((ys.zip ds).mergeSort (PySem.W.dataLe false (·.2))).map (·.1))) (fun b o e => sortedAll_old e) (Nat.le_succ _) ⟨?_, out, c, rv2, hc⟩, rfl, q _ _ hn n1 o1⟩
        have := rv2.length
        rw [this, ho, hbl]; exact hz
      have hu' : ∀ b, b ∈ ys.zip ds → X.A.units + 2 + b.2.depth < cLine := fun b hb => by
        have : b.2 ∈ ds := by rw [← em]; exact List.mem_map_of_mem hb
        have := plain_depth (hp _ this)
        omega
      have hal' : PySem.W.AllAlike ((ys.zip ds).map (·.2)) := by rw [em]; exact hal
      rcases headT_or hs ht with hk | ⟨hk1, hk2⟩
      · exact PySem.W.sorted_data (enc := (·.2)) (R := Pr X.K (mns S H)) pl.isList ep er hal' (by rw [em]; exact hk) (by rw [hbl]; exact hz) hu' fin
      · exact PySem.W.dm_sorted (enc := (·.2)) (R := Pr X.K (mns S H)) pl.isList ep er hal' (by rw [em]; exact hk1) (by rw [em]; exact hk2) (by rw [hbl]; exact hz) hu' fin
    · cases h1
  · cases eo
theorem f_sort (hu : X.A.units + 100 < cLine) (hm : X.mg "sorted" = none) (ha : DB X T a f) (hg : Gl X "sorted" := by rfl) (he : starEach [a] X.env = (false, eval a X.env) :: starEach [] X.env := by rfl) : DF X T (.Call (.Name "sorted" p) [a] [] pos) (unE sortLD f) :=
  (f_bi (cd_sort hu) hm (by decide +kernel) (b_cons ha b_nil he) hg (by decide) (by decide) he).of fun _ _ h => un_on1 h
end
end Dm
end

section
set_option Elab.async false
set_option linter.all false
set_option maxRecDepth 100000
set_option maxHeartbeats 3200000
/-! DSet: sorted(set(xs)), len(set(xs)) of a list of ints. -/
namespace L2
open PySem PySem.Spec PyProof.Rows
section
variable {P : Program} {w : World} {A : Around} {E : Value → Shared → Prop} {s : Shared}
abbrev dmNew (w : World) : Obj := { cls := .type "set", dict := none, data := .set #[] 0 (.fresh 0 0 (!w.params.followText "set-order")) }
theorem dm_set_list {l : Addr} {items : Array Value} (ns : List Int) {Q : Value → Shared → Prop} (hh : A.handled = none) (hl : s.heap.IsList l items) (hit : IntsAre items.toList ns) (hb : ns.length + 1 < scanBound)
    (h : ∀ (h' : Heap) (tk c : Nat), SetR w h' s.heap.objs.size (fun j => decide (j ∈ ns)) c → c ≤ ns.length → (∀ b o, s.heap.get? b = some o → h'.get? b = some o) → Q (.ref s.heap.objs.size) { s with heap := h', toks := tk }) : wpAny (model P w) A (call (.type "set") [.ref l]) Q E s := by
  have hsz : items.size = ns.length := by have q := IntsAre.length hit; rw [Array.length_toList] at q; exact q
  obtain ⟨c0, tl0, mro0⟩ := F.called_set.mro
  have made0 := F.called_set.made; have sub0 := F.called_set.sub
  refine wpAny_call (codeAny_of_tree ?_); show wpAny _ _ (callAny (.type "set") _) _ _ _
  refine wpAny_pure ⟨Code.quiet_builtin _ (by decide +kernel), codeAny_builtin F.entry_type_call ?_⟩; rw [Around.under_plain (weight_type_call_type "set" [.ref l] []) rfl]
  have nt0 := F.called_set.notType; have cc0 := F.called_set.canCreate; have tc0 := F.typeCall_set_1 (.ref l)
  repeat (any_goals (first | assumption | wp_step))
  refine codeAny_mono (code_set_led1 (.ref l) (E := E) (Q₁ := fun ob t1 => ob = .ref s.heap.objs.size ∧ t1 = { s with heap := s.heap.push (dmNew w) }) ⟨rfl, rfl⟩) fun r t1 hr => ?_
  cases r with
  | error e => exact hr
  | ok fl =>
    cases fl with
    | ret ob =>
      obtain ⟨rfl, rfl⟩ := hr
      have kS : (s.heap.push (dmNew w)).get? s.heap.objs.size = some (dmNew w) := Heap.get?_push_size _ rfl
      have kT : Shared.TypeIs { s with heap := s.heap.push (dmNew w) } (.ref s.heap.objs.size) "set" := ⟨_, kS, rfl⟩
      have li0 := F.called_set.init.lookup; have bi0 := F.called_set.init.bind (.ref s.heap.objs.size)
      repeat (any_goals (first | assumption | wp_step))
      refine codeAny_mono (codeAny_call_builtin (R := wants (fun r t2 => r = .none ∧ ∃ h' tk c, t2 = { s with heap := h', toks := tk } ∧ SetR w h' s.heap.objs.size (fun j => decide (j ∈ ns)) c ∧ c ≤ ns.length ∧ (∀ b o, s.heap.get? b = some o → h'.get? b = some o)) E) F.called_set.init.plain F.entry_set_init (check_set_init_1 kT ?_)) fun r2 t2 hr2 => ?_
      · obtain ⟨⟨kc, kd, kdt, ksl⟩, hol, hcl, ne, hdl⟩ := hl
        simp only at hcl hdl; subst hcl; subst hdl
        have hol' : (s.heap.push (dmNew w)).get? l = some { cls := .type "list", dict := kd, data := .seq items ne, slots := ksl } := Heap.get?_push_of_some _ hol
        have s1 := F.sub_list_set; have s2 := F.sub_list_frozenset
        have nd0 : (Value.type "list" == Value.type "dict") = false := by decide
        have kl : (s.heap.push (dmNew w)).IsList l items := ⟨_, hol', rfl, ne, rfl⟩
        unfold Builtin.«set.__init__» noKeywords Builtin.Frozenset.updateFrom
        generalize hPI : pyIter = PI
        wp_walk
        subst hPI
        refine wpAny_pyIter_list kl (wpAny_bind (wpAny_runValue ?_))
        have ltS : l < s.heap.objs.size := Heap.lt_size hol
        have hd3 : A.in1.in1.in1.handled = none := by simp [hh]
        have nI : l ≠ (s.heap.push (dmNew w)).objs.size := by rw [Heap.size_push]; exact Nat.ne_of_lt (Nat.lt_succ_of_lt ltS)
        have nS : s.heap.objs.size ∉ [(s.heap.push (dmNew w)).objs.size, l] := by
          rw [Heap.size_push]; simp only [List.mem_cons, List.mem_singleton, List.not_mem_nil, or_false, not_or]; exact ⟨Nat.ne_of_lt (Nat.lt_succ_self _), Nat.ne_of_gt ltS⟩
        have vals : ∀ (i : Nat) (v : Value), items[i]? = some v → ∃ k t, ns[i]? = some k ∧ v = .int k t := fun i v hv => by
          have hi : i < ns.length := by rw [← hsz]; exact (Array.getElem?_eq_some_iff.mp hv).1
          obtain ⟨t, e⟩ := PyProof.Rows.IntsAre.int_at hit i v (by rw [Array.getElem?_toList]; exact hv)
          exact ⟨ns[i], t, List.getElem?_eq_getElem hi, by rw [e, List.getD_eq_getElem?_getD, List.getElem?_eq_getElem hi]; rfl⟩
        refine set_update_ints ((Walks.list hd3 _ l nI items).toS) s.heap.objs.size nS ns hsz hb vals (items.size - 0) 0 _ (by omega) (Nat.zero_le _) ⟨⟨_, Heap.get?_push_size _ rfl, rfl, rfl⟩, (kl.push _)⟩ ?a0 ?a1
        case a0 => exact ⟨0, Nat.le_refl 0, setR_new_at (Heap.get?_push_of_some _ kS)⟩
        case a1 =>
          intro t' c' hm hc' hS'
          obtain ⟨h', g2, d', tk', os'⟩ := t'
          cases (show g2 = s.gens from hm.gens)
          cases (show d' = s.drawn from hm.drawn)
          cases (show os' = s.os from hm.os)
          show wpAny _ _ _ _ _ _
          refine wpAny_pure ?_; show wpAny _ _ (ret Value.none) _ _ _
          rw [hsz] at hc'
          refine wpAny_pure ⟨rfl, h', tk', c', rfl, hS', hc', fun b o e => ?_⟩
          have b0 : b < s.heap.objs.size := Heap.lt_size e
          have b1 : b ≠ (s.heap.push (dmNew w)).objs.size := by rw [Heap.size_push]; exact Nat.ne_of_lt (Nat.lt_succ_of_lt b0)
          refine hm.heap b o ?_ (Heap.get?_push_of_some _ (Heap.get?_push_of_some _ e))
          simp only [List.mem_cons, List.mem_singleton, List.not_mem_nil, or_false, not_or]; exact ⟨Nat.ne_of_lt b0, b1⟩
      · cases r2 with
        | error e => exact hr2
        | ok fl2 =>
          cases fl2 with
          | ret r =>
            obtain ⟨rfl, h', tk, c', rfl, hS', hc', hk'⟩ := hr2
            repeat (any_goals (first | assumption | wp_step))
            exact h _ _ _ hS' hc' hk'
          | _ => exact hr2.elim
    | _ => exact hr.elim
end
end L2
end

section
set_option Elab.async false
set_option linter.all false
set_option autoImplicit true
set_option maxRecDepth 100000
set_option maxHeartbeats 1000000
/-! DFun3: sorted and len of a set, sorted of a dict, dict comprehensions, a new dict, tuples repeated. -/
namespace Dm
open PySem PySem.Spec PyProof.Rows L2
/-! ### rows of ints in order -/
theorem le_total_int : ∀ a b : Int, (decide (a ≤ b) || decide (b ≤ a)) = true := fun a b => by
  rcases Int.le_total a b with h | h <;> simp [h]
theorem le_trans_int : ∀ a b c : Int, decide (a ≤ b) = true → decide (b ≤ c) = true → decide (a ≤ c) = true := fun a b c h1 h2 => by
  simp at h1 h2 ⊢; omega
theorem eq_of_perm_le : ∀ {l1 l2 : List Int}, l1.Perm l2 → l1.Pairwise (· ≤ ·) → l2.Pairwise (· ≤ ·) → l1 = l2
  | [], l2, p, _, _ => by simpa using p.symm.eq_nil
  | a :: l1, [], p, _, _ => by simpa using p.eq_nil
  | a :: l1, b :: l2, p, s1, s2 => by
    obtain ⟨h1, t1⟩ := List.pairwise_cons.mp s1
    obtain ⟨h2, t2⟩ := List.pairwise_cons.mp s2
    have e : a = b := by
      have m1 : a ∈ b :: l2 := p.subset List.mem_cons_self
      have m2 : b ∈ a :: l1 := p.symm.subset List.mem_cons_self
      rcases List.mem_cons.mp m1 with e | m1
      · exact e
      · rcases List.mem_cons.mp m2 with e | m2
        · exact e.symm
        · have := h2 a m1
          have := h1 b m2
          omega
    subst e
    rw [eq_of_perm_le (List.Perm.cons_inv p) t1 t2]
theorem dedupI_mem {x : Int} : ∀ {xs : List Int}, x ∈ dedupI xs ↔ x ∈ xs
  | [] => Iff.rfl
  | y :: ys => by
    unfold dedupI
    split
    · rename_i h
      rw [dedupI_mem, List.mem_cons]
      exact ⟨.inr, fun z => z.elim (fun e => e ▸ h) id⟩
    · rw [List.mem_cons, List.mem_cons, dedupI_mem]
theorem dedupI_nodup : ∀ xs : List Int, (dedupI xs).Nodup
  | [] => List.nodup_nil
  | y :: ys => by
    unfold dedupI
    split
    · exact dedupI_nodup ys
    · rename_i h
      exact List.nodup_cons.mpr ⟨fun z => h (dedupI_mem.mp z), dedupI_nodup ys⟩
theorem sortI_pair (ns : List Int) : (ns.mergeSort fun a b => decide (a ≤ b)).Pairwise (· ≤ ·) := by
  have := List.pairwise_mergeSort (le := fun a b : Int => decide (a ≤ b)) (fun a b c => le_trans_int a b c) (fun a b => le_total_int a b) ns
  exact this.imp fun h => by simpa using h
theorem lt_nodup : ∀ {ms : List Int}, ms.Pairwise (· < ·) → ms.Nodup
  | [], _ => List.nodup_nil
  | a :: ms, h => by
    obtain ⟨h1, h2⟩ := List.pairwise_cons.mp h
    exact List.nodup_cons.mpr ⟨fun z => absurd (h1 a z) (Int.lt_irrefl _), lt_nodup h2⟩
theorem perm_of_mem : ∀ {l1 l2 : List Int}, l1.Nodup → l2.Nodup → (∀ k, k ∈ l1 ↔ k ∈ l2) → l1.Perm l2 := fun {l1 l2} n1 n2 h => by
  rw [List.perm_iff_count]
  intro a
  by_cases ha : a ∈ l1
  · have hb := (h a).mp ha
    rw [List.Nodup.count n1, List.Nodup.count n2, if_pos ha, if_pos hb]
  · have hb := fun z => ha ((h a).mpr z)
    rw [List.count_eq_zero_of_not_mem ha, List.count_eq_zero_of_not_mem hb]
theorem sorted_set_eq {ms ns : List Int} (h : ms.Pairwise (· < ·)) (hm : ∀ k, k ∈ ms ↔ k ∈ ns) : ms = (dedupI ns).mergeSort fun a b => decide (a ≤ b) := by
  refine eq_of_perm_le ?_ (h.imp fun z => Int.le_of_lt z) (sortI_pair _)
  refine (perm_of_mem (lt_nodup h) (dedupI_nodup ns) fun k => (hm k).trans dedupI_mem.symm).trans (List.mergeSort_perm _ _).symm
theorem rpAll_ints {K : PySem.W.Frag} {H : Hp} (ns : List Int) : RpAll K H (ns.map V.int) (ns.map PyData.int) := RpAll.ints ns
section
variable {X : Cx} {T : List Addr} {e a b c : Expr} {es rest : List Expr} {f g h : E} {fs : List E} {pos p p2 q2 : Pos}
theorem sortSetD_some {d r : D} (h : sortSetD d = some r) : ∃ ds ns, d = .list ds ∧ intsOf ds = some ns ∧ ns.length < 4000 ∧ (dedupI ns).length < 64 ∧ r = .list (((dedupI ns).mergeSort fun a b => decide (a ≤ b)).map .int) := by
  unfold sortSetD at h
  split at h
  · split at h
    · rename_i ns hns
      split at h
      · rename_i hb
        simp only [Bool.and_eq_true, decide_eq_true_eq] at hb
        exact ⟨_, ns, rfl, hns, hb.1, hb.2, (Option.some.inj h).symm⟩
      · cases h
    · cases h
  · cases h
theorem intsOf_len {ds : List D} : ∀ {ns : List Int}, intsOf ds = some ns → ns.length = ds.length := by
  induction ds with
  | nil => intro ns h; simp [intsOf] at h; subst h; rfl
  | cons d ds ih =>
    intro ns h
    cases d with
    | int i =>
      simp only [intsOf, Option.map_eq_some_iff] at h
      obtain ⟨ms, h1, rfl⟩ := h
      simp [ih h1]
    | _ => simp [intsOf] at h
theorem vals_intsAre : ∀ {us : List Value} {ns : List Int}, IntsAre us ns → Vals (ns.map V.int) us
  | _, _, .nil => .nil
  | _, _, .cons n t h => .cons ⟨t, rfl⟩ (vals_intsAre h)
/-- a new list at the end of a call that may have drawn -/
theorem inv_newL {pins : List (Addr × Obj)} {s s' : Shared} {σ : L2.St} {H : Hp} {p' : Addr} {xs : List V} {us : List Value} {n : Nat} (I : Inv X pins σ H s) (hk : ∀ b o, s.heap.get? b = some o → s'.heap.get? b = some o) (hg : s'.gens = s.gens) (ho : s'.os = s.os) (hp : s.heap.objs.size ≤ p')
    (hz : xs.length ≤ sizeLine) (rv : Vals xs us) (e : s'.heap.get? p' = some { cls := .type "list", data := .seq us.toArray n }) : Inv X pins σ (upd H p' (.lst xs)) s' :=
  I.call' (ch := []) ho (Un.laid hk hp (I.hok.fresh hp)) (I.hok.laid hk hp ⟨hz, us, n, rv, e⟩) (by rw [hg]; exact I.bare) fun b hb => by simp at hb
theorem f_sortSet (hm : X.mg "sorted" = none) (hm2 : X.mg "set" = none) (ha : DB X T a f) (hc : X.calm = true := by rfl) (hg : Gl X "sorted" := by rfl) (hg2 : Gl X "set" := by rfl) (na : starEach [a] X.env = (false, eval a X.env) :: starEach [] X.env := by rfl) :
    DF X T (.Call (.Name "sorted" p) [.Call (.Name "set" p2) [a] [] q2] [] pos) (unE sortSetD f) := by
  refine ⟨⟨fun pins s σ H Q I ⟨S, r, d, o, ef, k⟩ => ?_⟩⟩
  obtain ⟨x0, e1, e2⟩ := unE_some ef
  obtain ⟨ds, ns, rfl, hns, h4, h64, rfl⟩ := sortSetD_some e2
  refine Call_ (ld_blt I hg hm (show bootBuiltins "sorted" = some (.builtin "sorted") by decide +kernel) ?_)
  refine PyProof.Rows.callWith_builtin1 (PyProof.Rows.args_cons ?_ rfl) rfl rfl
  refine Call_ (ld_blt I hg2 hm2 (show bootBuiltins "set" = some (.type "set") by decide +kernel) ?_)
  refine PyProof.Rows.callWith_type1 (PyProof.Rows.args_cons (thn (ha.pe.run pins s σ H (fun v H' => Nxt T H H' ∧ RpB X.K S H' v (.list ds)) I ⟨S, r, _, o, e1, fun v H' n rv => ⟨n, rv⟩⟩) fun v s1 ⟨x, H1, I1, r1, n1, rx⟩ => PyProof.Rows.args_nil ?_) na) na rfl
  obtain ⟨l, ys, rfl, hl, rr⟩ := rx.list
  cases r1
  have ey := rpAll_intsOf rr hns
  subst ey
  obtain ⟨its, rv, pl, hz⟩ := I1.list hl
  refine dm_set_list ns (I1.ok.hd hc) pl.isList (by simpa using intsAre_of rv) (by unfold scanBound; omega) fun h' tk c hS hcn hk => ?_
  refine PyProof.Rows.args_nil ?_
  have I2 : Inv X pins σ H1 { s1 with heap := h', toks := tk } := I1.kept hk
  have hc64 : c < 64 := by
    obtain ⟨ob, es, ep, tb, _, _, _, g, nd, mem, _, _, ec, _⟩ := hS
    have : (es.toList.map keyOf).Perm (dedupI ns) := perm_of_mem nd (dedupI_nodup ns) fun j => by
      rw [← mem j, dedupI_mem]; simp
    have e := this.length_eq
    rw [List.length_map, Array.length_toList, ec] at e
    omega
  refine sorted_set hS (I2.ok.hd hc) hc64 fun s' p out c' ms hk2 hg2 ho2 hp ho hi hlt hmem hlen => ?_
  have em : ms = (dedupI ns).mergeSort fun a b => decide (a ≤ b) := sorted_set_eq hlt fun j => by rw [hmem j]; simp
  subst em
  have hnone : H1 p = none := I2.hok.fresh hp
  obtain ⟨n3, o3⟩ := own_newlst (K := X.K) (S := S) n1.tabs (o.live.ext n1.ext) hnone (rpAll_ints ((dedupI ns).mergeSort fun a b => decide (a ≤ b)))
  refine ⟨.ref p, _, inv_newL (us := out.toList) (n := c') I2 hk2 hg2 ho2 hp ?_ (vals_intsAre hi) (by rw [Array.toArray_toList]; exact ho), rfl, k p _ (n1.free hnone) (n1.trans n3) o3⟩
  rw [List.length_map, List.length_mergeSort, sizeLine_eq]
  omega
theorem e_lenSet (hm : X.mg "len" = none) (hm2 : X.mg "set" = none) (ha : DB X T a f) (hc : X.calm = true := by rfl) (hg : Gl X "len" := by rfl) (hg2 : Gl X "set" := by rfl) (na : starEach [a] X.env = (false, eval a X.env) :: starEach [] X.env := by rfl) :
    DE X T (.Call (.Name "len" p) [.Call (.Name "set" p2) [a] [] q2] [] pos) (unE lenSetD f) := by
  refine ⟨⟨fun pins s σ H Q I ⟨S, r, d, o, ef, k⟩ => ?_⟩⟩
  obtain ⟨x0, e1, e2⟩ := unE_some ef
  obtain ⟨ds, ns, rfl, hns, h4, rfl⟩ : ∃ ds ns, x0 = .list ds ∧ intsOf ds = some ns ∧ ns.length < 4000 ∧ d = .int (dedupI ns).length := by
    unfold lenSetD at e2
    split at e2
    · split at e2
      · rename_i ns hns
        split at e2
        · rename_i hb
          exact ⟨_, ns, rfl, hns, of_decide_eq_true hb, (Option.some.inj e2).symm⟩
        · cases e2
      · cases e2
    · cases e2
  refine Call_ (ld_blt I hg hm (show bootBuiltins "len" = some (.builtin "len") by decide +kernel) ?_)
  refine PyProof.Rows.callWith_builtin1 (PyProof.Rows.args_cons ?_ rfl) rfl rfl
  refine Call_ (ld_blt I hg2 hm2 (show bootBuiltins "set" = some (.type "set") by decide +kernel) ?_)
  refine PyProof.Rows.callWith_type1 (PyProof.Rows.args_cons (thn (ha.pe.run pins s σ H (fun v H' => Nxt T H H' ∧ RpB X.K S H' v (.list ds)) I ⟨S, r, _, o, e1, fun v H' n rv => ⟨n, rv⟩⟩) fun v s1 ⟨x, H1, I1, r1, n1, rx⟩ => PyProof.Rows.args_nil ?_) na) na rfl
  obtain ⟨l, ys, rfl, hl, rr⟩ := rx.list
  cases r1
  have ey := rpAll_intsOf rr hns
  subst ey
  obtain ⟨its, rv, pl, hz⟩ := I1.list hl
  refine dm_set_list ns (I1.ok.hd hc) pl.isList (by simpa using intsAre_of rv) (by unfold scanBound; omega) fun h' tk c hS hcn hk => ?_
  refine PyProof.Rows.args_nil ?_
  have I2 : Inv X pins σ H1 { s1 with heap := h', toks := tk } := I1.kept hk
  obtain ⟨ob, es, ep, tb, hob, hex, hdt, g, nd, mem, _, hf, ec, _⟩ := hS
  have pm : (es.toList.map keyOf).Perm (dedupI ns) := perm_of_mem nd (dedupI_nodup ns) fun j => by
    rw [← mem j, dedupI_mem]; simp
  have e9 := pm.length_eq
  rw [List.length_map, Array.length_toList, ec] at e9
  have lt9 : (dedupI ns).length ≤ ns.length := by rw [← e9]; exact hcn
  refine call_len_set hob hex hdt hf (by rw [ec]; omega) ⟨.int (dedupI ns).length, H1, I2.tok _, ⟨_, by rw [ec, e9]⟩, k _ H1 n1 (.int _)⟩
/-! ### sorted(d) -/
theorem cd_sortK (hc : X.calm = true) : CallR X (.builtin "sorted") (rF X.K T (on1 sortKD)) := by
  intro pins s σ H xs us Q I rx hh
  obtain ⟨S, d, x, r, t, l, rfl, hx, eo, q⟩ := rF_one hh
  unfold sortKD at eo
  split at eo
  · rename_i kvs
    split at eo
    · rename_i ns hns
      split at eo
      · rename_i hb
        cases eo
        have h64 : ns.length < 64 := of_decide_eq_true hb
        have fin : ∀ (ys : List Int) (p : Addr), ys.Perm ns → ys.Pairwise (· ≤ ·) → H p = none → Q (.ref p) (upd H p (.lst (ys.map V.int))) := fun ys p hp hs hn => by
          have : ys = ns.mergeSort fun a b => decide (a ≤ b) := eq_of_perm_le (hp.trans (List.mergeSort_perm _ _).symm) hs (sortI_pair _)
          subst this
          obtain ⟨n3, o3⟩ := own_newlst (K := X.K) (S := S) t l hn (rpAll_ints (ns.mergeSort fun a b => decide (a ≤ b)))
          exact q p _ hn n3 o3
        have keyEq : ∀ (ks : List Key) (ms : List Int), intsOf (ks.map kD) = some ms → ks = ms.map Sum.inl := fun ks => by
          induction ks with
          | nil => intro ms h; simp [intsOf] at h; subst h; rfl
          | cons k ks ih =>
            intro ms h
            cases k with
            | inl i =>
              simp only [List.map_cons, kD, intsOf, Option.map_eq_some_iff] at h
              obtain ⟨zs, h1, rfl⟩ := h
              rw [ih zs h1]; rfl
            | inr z => simp [kD, intsOf] at h
        obtain ⟨a, rfl, ⟨ks, h1, h2, h3⟩ | ⟨ks, h1, h2, h3⟩⟩ := hx.dict
        · have e5 : kvs.map (·.1) = (ks.map (·.1)).map kD := by rw [h3.keys, List.map_map]; rfl
          rw [e5] at hns
          exact call_sortedDI hc pins s σ H _ us Q I rx ⟨a, ks, ns, rfl, h1, keyEq _ _ hns, h64, fin⟩
        · cases ks with
          | nil =>
            cases h3
            simp [intsOf] at hns
            subst hns
            obtain ⟨u, rfl, ru⟩ := rx.one
            cases ru
            have hH := h2 rfl
            have I1 := inv_emp I (.inr rfl) (.inl rfl) hH
            have back : upd (upd H a (.dK [])) a (.dT []) = H := by rw [upd_upd, upd_self hH]
            refine thn (call_sortedDI hc pins s σ (upd H a (.dK [])) [V.ref a] [.ref a] (fun v H' => ∃ p, v = .ref p ∧ H p = none ∧ p ≠ a ∧ H' = upd (upd H a (.dK [])) p (.lst [])) I1 (.cons rfl .nil) ⟨a, [], [], rfl, .inl upd_same, rfl, by decide, fun ys p hp hs hn => ?_⟩) fun v s1 ⟨x1, H1, I2, r2, p1, e1, e2, e3, e4⟩ => ?_
            · have hpa : p ≠ a := fun z => by rw [z, upd_same] at hn; cases hn
              have ey : ys = [] := hp.eq_nil
              subst ey
              exact ⟨p, rfl, by rw [upd_ne hpa] at hn; exact hn, hpa, rfl⟩
            · subst e1 e4
              have I3 := inv_emp I2 (.inl rfl) (.inr rfl) (show (upd (upd H a (.dK [])) p1 (.lst [])) a = some (.dK []) from (upd_ne (Ne.symm e3)).trans upd_same)
              have e6 : upd (upd (upd H a (.dK [])) p1 (.lst [])) a (.dT []) = upd H p1 (.lst []) := by
                funext b
                by_cases hb : b = a
                · subst hb; rw [upd_same, upd_ne (Ne.symm e3), hH]
                · by_cases hp : b = p1
                  · subst hp; rw [upd_ne hb, upd_same, upd_same]
                  · rw [upd_ne hb, upd_ne hp, upd_ne hb, upd_ne hp]
              rw [e6] at I3
              exact ⟨.ref p1, _, I3, r2, fin [] p1 (List.Perm.refl _) .nil e2⟩
          | cons k ks =>
            cases h3
            simp [intsOf] at hns
      · cases eo
    · cases eo
  · cases eo
theorem f_sortK (hm : X.mg "sorted" = none) (ha : DB X T a f) (hc : X.calm = true := by rfl) (hg : Gl X "sorted" := by rfl) (he : starEach [a] X.env = (false, eval a X.env) :: starEach [] X.env := by rfl) : DF X T (.Call (.Name "sorted" p) [a] [] pos) (unE sortKD f) :=
  (f_bi (cd_sortK hc) hm (by decide +kernel) (b_cons ha b_nil he) hg (by decide) (by decide) he).of fun _ _ h => un_on1 h
/-! ### {} -/
theorem f_d0 : DF X T (.Dict [] [] pos) (dispE []) := ⟨PE.imp pe_dnewK fun σ H Q ⟨S, r, d, o, ef, k⟩ p hp => by
  simp [dispE, dispL] at ef
  subst ef
  exact k p _ hp (nxt_new o.tabs hp) (.dk upd_same .nil)⟩
/-! ### (..) * k -/
theorem tuple_once (l : Addr) (items : Array Value) (n : Nat) (dd : Option Addr) (sl : Array (Option Value)) (u : Tok) :
    Meets (Builtin.«tuple.__mul__» ⟨[.ref l, .int 1 u], []⟩) (fun _ R s => s.heap.get? l = some { cls := .type "tuple", dict := dd, data := .seq items n, slots := sl } ∧ R (.ok (.ret (Value.ref l))) s) :=
  .of_wp fun prog w A R s h => by
    obtain ⟨hp, g, d, tk, os⟩ := s; obtain ⟨hl, h⟩ := h; have f1 := AutoSeq1.idx_int; have f2 := AutoSeq1.sub_tuple_tuple
    wp_walk using AutoSeq1.wpAny_loadPart' hl
    repeat (first
      | (refine wpAny_ite_false (decide_eq_false (by decide)) ?_; wp_walk using AutoSeq1.wpAny_loadPart' hl)
      | (refine wpAny_ite_true (decide_eq_true (by simp)) ?_; wp_walk using AutoSeq1.wpAny_loadPart' hl))
    all_goals exact ⟨_, rfl, h⟩
theorem o_mulT : OpD X T (binaryOp .Mult) repT := fun pins s σ H S x y v u d e r Q I t l rx ry px py eo q => by
  unfold repT at eo
  split at eo
  · rename_i ds k
    split at eo
    · rename_i hb
      cases eo
      simp only [Bool.and_eq_true, decide_eq_true_eq, Bool.not_eq_true'] at hb
      obtain ⟨⟨hz, h1, h2⟩, hne⟩ := hb
      have px0 := px
      obtain ⟨a, xs, rfl, hx, rr⟩ := px.tuple
      obtain rfl := py.int
      have hxs : xs ≠ [] := fun z => by
        have := rr.length
        rw [z] at this
        cases ds with
        | nil => simp at hne
        | cons _ _ => simp at this
      by_cases hk : k = 1
      · subst hk
        cases rx
        obtain ⟨tk, rfl⟩ := ry
        obtain ⟨its, r, ⟨⟨cls, dd, data, sl⟩, ho, hc, n, hd⟩, hs⟩ := I.tuple (.of hx)
        simp only at hc hd
        subst hc hd
        refine wpAny_binaryOp_repeat_ref (T := "tuple") (U := "int") (by decide) ⟨_, ho, rfl⟩ (fun s' => typeIs_int s' 1 tk) noFill_tuple_mul F.fills_int_mul F.slot_int_rmul repeat_tuple F.slot_int_index.lookup
          (call_meets F.slot_int_rmul (typeIs_int s 1 tk) F.entry_int_rmul (F.args_int_rmul_2 _ _) (int_rmul_tuple 1 tk a its.toArray n dd sl) ⟨ho, rfl, ⟨_, ho, rfl⟩, call_meets F.slot_tuple_mul ⟨_, ho, rfl⟩ F.entry_tuple_mul (F.args_tuple_mul_2 _ _) (tuple_once a its.toArray n dd sl tk) ⟨ho, ?_⟩⟩)
        have e1 : (List.replicate (1 : Int).toNat ds).flatten = ds := by simp
        rw [e1] at q
        refine ⟨.ref a, H, I, rfl, q _ H (Nxt.refl t) ?_⟩
        rcases px0 with h | ⟨p, e, o⟩
        · exact h
        · cases o
      · refine op_repT pins s σ H _ _ v u Q I rx ry ⟨a, k, xs, rfl, rfl, .of hx, hxs, by omega, h2, by rw [rr.length]; exact hz, fun p hp => ?_⟩
        obtain ⟨n1, r1⟩ := rp_newtup t l hp (rr.rep k.toNat)
        exact q _ _ n1 r1
    · cases eo
  · cases eo
/-! ### {k: v for ..} -/
theorem dcompL_cons {r : Env} {tg : Tg} {ts : Dm.T} {k v : E} {acc : List (D × D)} {x : D} {xs : List D} {z : List (D × D)} (h : dcompL r tg ts k v acc (x :: xs) = some z) :
    ∃ r1 b, asg tg x r = some r1 ∧ ts r1 = some b ∧ if b = true then ∃ d e, k r1 = some d ∧ v r1 = some e ∧ flatK d = true ∧ lenOk (acc.length + 1) = true ∧ dcompL r tg ts k v (putD acc d e) xs = some z else dcompL r tg ts k v acc xs = some z := by
  simp only [dcompL, Option.bind_eq_bind, Option.bind_eq_some_iff] at h
  obtain ⟨r1, h1, b, h2, h3⟩ := h
  refine ⟨r1, b, h1, h2, ?_⟩
  cases b with
  | false => simpa using h3
  | true =>
    simp only [if_true, Option.bind_eq_some_iff] at h3 ⊢
    obtain ⟨d, h4, e, h5, h6⟩ := h3
    split at h6
    · rename_i hb
      obtain ⟨b1, b2⟩ := Bool.and_eq_true_iff.mp hb
      exact ⟨d, e, h4, h5, b1, b2, h6⟩
    · cases h6
theorem dc_df {K : PySem.W.Frag} {q : Bool} {it : I} {t : Tg} {ts : Dm.T} {ek ev : E} {own : List Nat} (hw : ∀ j ∈ t.slots, j ∈ own) : tDF' K T (dcompE own it t ts ek ev) (tDc (tDI K T q it) (tDG K T t) (tDT K T ts) (tDE K T ek) (tDE K T ev) own) := fun σ H Q ⟨S, r, d, o, ef, k⟩ => by
    simp only [dcompE, Option.bind_eq_bind, Option.bind_eq_some_iff] at ef
    obtain ⟨ds, e1, zs, e2, e3⟩ := ef
    cases e3
    refine ⟨S, r, ds, o, e1, fun J H1 kp fx n1 hkp hfx hit D hD => ?_⟩
    have lv1 : Live S H1 := o.live.ext n1.ext
    have hD0 : H D = none := n1.free hD
    let W : Nat → Nat → Hp → Prop := fun i m Hc => ∃ acc accD, i + m = ds.length ∧ Hc D = some (.dK acc) ∧ RpK K (mns (D :: S) Hc) acc accD ∧ dcompL (wipeE r (own)) t ts ek ev accD (ds.drop i) = some zs ∧ Nxt T H1 Hc
    refine ⟨W, ⟨ds.length, [], [], by omega, upd_same, .nil, by simpa using e2, nxt_new n1.tabs hD⟩, ?_⟩
    rintro i m Hc ⟨acc, accD, him, hc', ra, ec, nc⟩
    have eo : EnvOk K T (D :: S) Hc σ r := (o.nxt n1).more hD nc hc' (NT.dK acc)
    have ew := eo.wipe (own)
    have kc : ∀ x ∈ kp, RpB K (D :: S) Hc x.1 x.2 := fun x hx => ((hkp x hx).more lv1 hD nc).look
    obtain ⟨st, go⟩ := hit (D :: S) Hc eo.tabs eo.live kc (hfx.more hD nc)
    by_cases hi : ds.length ≤ i
    · refine .inl ⟨st i hi, ?_⟩
      rw [List.drop_eq_nil_of_le hi] at ec
      simp only [dcompL, Option.some.injEq] at ec
      subst ec
      exact k D Hc hD0 (n1.trans nc) (.dk hc' ra)
    · have hi' : i < ds.length := Nat.lt_of_not_le hi
      obtain ⟨g1, g2⟩ := go i _ (List.getElem?_eq_getElem hi')
      rw [List.drop_eq_getElem_cons hi'] at ec
      obtain ⟨r1, b, f1, f2, f3⟩ := dcompL_cons ec
      refine .inr ⟨g1, fun H' => W (i + 1) (m - 1) H', fun H' w' => ⟨m - 1, by omega, w'⟩, fun x H2 y => ?_⟩
      obtain ⟨n2, rx⟩ := g2 x H2 y
      refine ⟨D :: S, _, _, r1, ew.nxt n2, rx, f1, fun σ' o' u' => ⟨u'.wipe hw, D :: S, r1, b, o', f2, fun H3 n3 => ?_⟩⟩
      have hc3 : H3 D = some (.dK acc) := n3.ext _ _ (n2.ext _ _ hc' fun _ z => by cases z) fun _ z => by cases z
      cases b with
      | false =>
        rw [if_neg Bool.false_ne_true] at f3
        show W (i + 1) (m - 1) H3
        exact ⟨acc, accD, by omega, hc3, ra.le (le_mns (n2.trans n3).le), f3, nc.trans (n2.trans n3)⟩
      | true =>
        rw [if_pos rfl] at f3
        show tDE K T ek σ' H3 _
        obtain ⟨dk, de, g3, g4, g5, g6, g7⟩ := f3
        refine ⟨D :: S, r1, dk, o'.nxt n3, g3, fun vk H4 n4 rk => ⟨D :: S, r1, de, (o'.nxt n3).nxt n4, g4, fun vv H5 n5 rv => ?_⟩⟩
        obtain ⟨key, rfl⟩ := flatK_key g5
        have hc5 : H5 D = some (.dK acc) := n5.ext _ _ (n4.ext _ _ hc3 fun _ z => by cases z) fun _ z => by cases z
        have nn := (n2.trans n3).trans (n4.trans n5)
        refine ⟨acc, key, kD_kV rk, hc5, by rw [ra.length]; exact lenOk_lt g6, _, _, by omega, upd_same, ?_, g7, (nc.trans nn).grow hD hc5 (NT.dK _)⟩
        rw [mns_upd]
        exact RpK.put rv (ra.le (le_mns nn.le))
theorem f_dc {kx vx tg iter : Expr} {ifs : List Expr} {scope : Scope} {own : List (Str × Nat)} {q : Bool} {it : I} {t : Tg} {ts : Dm.T} {ek ev : E} (hc : X.calm = true) (hN : X.N.Nodup) (hi : DI X T q tg iter it) (ok : BlkOk X.N X.env.scope scope own)
    (hg : ∀ (s : Shared) (H : Hp) (C : Addr) (cl : List (Str × Addr)) (fp : List Addr), DG (X.blk s H scope (compEnvC scope cl C X.env) fp) T tg t) (ht : ∀ (s : Shared) (H : Hp) (C : Addr) (cl : List (Str × Addr)) (fp : List Addr), DTs (X.blk s H scope (compEnvC scope cl C X.env) fp) T ifs ts)
    (hk : ∀ (s : Shared) (H : Hp) (C : Addr) (cl : List (Str × Addr)) (fp : List Addr), DE (X.blk s H scope (compEnvC scope cl C X.env) fp) T kx ek) (hv : ∀ (s : Shared) (H : Hp) (C : Addr) (cl : List (Str × Addr)) (fp : List Addr), DE (X.blk s H scope (compEnvC scope cl C X.env) fp) T vx ev)
    (hw : ∀ j ∈ t.slots, j ∈ own.map (·.2) := by decide) (hs : ∀ x, foldedSetIterable iter X.env x = pure x := by intro _; rfl) : DF X T (.DictComp kx vx [⟨tg, iter, ifs, 0⟩] scope pos) (dcompE (own.map (·.2)) it t ts ek ev) :=
  ⟨PE.imp (pe_dc (g := tDG X.K T t) (tt := tDT X.K T ts) (tk := tDE X.K T ek) (tv := tDE X.K T ev) hc hN hi.pi ok (fun s H C cl fp => (hg s H C cl fp).pg) (fun s H C cl fp => (ht s H C cl fp).pt) (fun s H C cl fp => (hk s H C cl fp).pe) (fun s H C cl fp => (hv s H C cl fp).pe) hs) (dc_df hw)⟩
end
end Dm
end

section
set_option Elab.async false
set_option linter.all false
set_option autoImplicit true
set_option maxRecDepth 100000
set_option maxHeartbeats 1000000
/-! DFun4: a dict comprehension assigned to a name, range downwards, small checks for the walk. -/
namespace Dm
open PySem PySem.Spec PyProof.Rows L2
/-! ### checks -/
def scopeB (N P : List Str) (sc : Scope) : Bool :=
  (match sc.kind with | .function => true | _ => false) && !sc.isCoroutine && !sc.isGenerator && decide N.Nodup && decide (N.take P.length = P)
    && P.all (fun x => decide (sc.names.lookup x = some .local) || decide (sc.names.lookup x = some .cell)) && sc.names.all fun y => decide (y.2 ≠ .free)
theorem fnScope_by {N P : List Str} {sc : Scope} (h : scopeB N P sc = true) : FnScope N P sc := by
  unfold scopeB at h
  simp only [Bool.and_eq_true, Bool.or_eq_true, List.all_eq_true, decide_eq_true_eq, Bool.not_eq_true'] at h
  obtain ⟨⟨⟨⟨⟨⟨h1, h2⟩, h3⟩, h4⟩, h5⟩, h6⟩, h7⟩ := h
  refine ⟨?_, h2, h3, h4, h5, h6, h7⟩
  split at h1
  · assumption
  · cases h1
theorem blkOk_at {N N' : List Str} {sc sc' scope : Scope} {own : List (Str × Nat)} (hN : N' = N) (hs : sc' = sc) (h : blkC N sc scope own = true) : BlkOk N' sc' scope own := by
  subst hN hs
  exact blkOk_by h
section
variable {X : Cx} {T : List Addr}
/-! ### name = {.. for ..} on one line -/
variable {i : Nat} {y : Str} {py : Pos} {kx vx tg iter : Expr} {ifs : List Expr} {scope : Scope} {own : List (Str × Nat)} {pos spos : Pos}
theorem sw_dict {l : Nat} {env : PySem.Env} (hk : env.scope.kind = .function) (hy : env.scope.names.lookup y = some .local) (hl : (py.line == pos.line) = true)
    (ha : (scope.names.any fun (n, k) => n == y && (k == .local || k == .cell)) = false) : swapsWith (.DictComp kx vx gs scope pos) (some (.Name y py)) l env = pure true := by
  have e1 : env.kindOf y = some .local := hy
  have e2 : env.blockKind = .function := by
    unfold Env.blockKind
    rw [hk]
    rfl
  unfold swapsWith
  simp only [e2, e1, ha, Expr.pos, hl]
  rfl
theorem ps_setDc {wi : TI} {g : TG} {tt : TT} {tk tv : TE} (hc : X.calm = true) (hN : X.N.Nodup) (hy : X.N[i]? = some y) (hyl : X.env.scope.names.lookup y = some .local)
    (hsw : swapsWith (.DictComp kx vx [⟨tg, iter, ifs, 0⟩] scope pos) (some (.Name y py)) spos.line X.env = pure true) (hi : PI X tg iter wi) (ok : BlkOk X.N X.env.scope scope own)
    (hg : ∀ (s : Shared) (H : Hp) (C : Addr) (cl : List (Str × Addr)) (fp : List Addr), PG (X.blk s H scope (compEnvC scope cl C X.env) fp) tg g) (ht : ∀ (s : Shared) (H : Hp) (C : Addr) (cl : List (Str × Addr)) (fp : List Addr), PTs (X.blk s H scope (compEnvC scope cl C X.env) fp) ifs tt)
    (hk : ∀ (s : Shared) (H : Hp) (C : Addr) (cl : List (Str × Addr)) (fp : List Addr), PE (X.blk s H scope (compEnvC scope cl C X.env) fp) kx tk)
    (he : ∀ (s : Shared) (H : Hp) (C : Addr) (cl : List (Str × Addr)) (fp : List Addr), PE (X.blk s H scope (compEnvC scope cl C X.env) fp) vx tv) (hs : ∀ x, foldedSetIterable iter X.env x = pure x := by intro _; rfl) :
    PS X (.Assign [.Name y py] (.DictComp kx vx [⟨tg, iter, ifs, 0⟩] scope pos) spos) (tAsg (tDc wi g tt tk tv (own.map (·.2))) (gName i)) := by
  refine ⟨fun pins s σ H Z I hh => ?_⟩
  rw [exec_Assign_Name_used _ _ _ _ hsw]
  refine wpAny_bind (wpAny_standAt (wpAny_bind ?_))
  show wpAny _ X.A (do let _ ← comprehension (.DictComp kx vx [⟨tg, iter, ifs, 0⟩] scope pos) scope X.env (firstIterPos [⟨tg, iter, ifs, 0⟩] pos) newDict false (eval iter X.env) (some (assign (.Name y py) X.env))) _ _ s
  have hh2 : tDc wi g tt tk tv (own.map (·.2)) σ H (fun x H1 => gName i x σ H1 Z.nx) := hh
  refine wpAny_bind (thn (dc_core (Qf := fun _ r => SP X pins Z .next r) hc hN I hi ok hg ht hk he hs hh2 fun D C s1 m H1 I1 q1 ns f1 => ?_) fun _ r hr => wpAny_pure (wpAny_pure hr))
  show wpAny _ _ (assign (.Name y py) X.env (.ref D)) _ _ _
  refine wpAny_assign_Name (store_ok2 (v := V.ref D) I1 hN hy (.inl hyl) rfl (fun s2 I2 ⟨a, sb, ha⟩ => ?_) (.inr hyl))
  obtain ⟨a0, a1, a2, a3, a4, a5⟩ := f1
  have hne : C ≠ a := by
    rcases ha with z | z
    · intro e
      exact a1 (e.trans z)
    · exact fun e => a4 y a z e.symm
  refine ⟨m, ns.sameBut sb hne, fun h3 sb3 => ?_⟩
  exact ⟨_, H1, I2.turned (t' := s2.toks) (fun b o hb e => (sb3.2 b hb).trans e) a0 a1 a3 a4 a5, q1⟩
variable {q : Bool} {it : I} {t : Tg} {ts : Dm.T} {ek ev : E}
/-- name = {..} on one line, the name's own or a datum that stays -/
theorem s_ownDc (i : Nat) (hc : X.calm = true) (hN : X.N.Nodup) (hi : DI X T q tg iter it) (ok : BlkOk X.N X.env.scope scope own)
    (hg : ∀ (s : Shared) (H : Hp) (C : Addr) (cl : List (Str × Addr)) (fp : List Addr), DG (X.blk s H scope (compEnvC scope cl C X.env) fp) T tg t) (ht : ∀ (s : Shared) (H : Hp) (C : Addr) (cl : List (Str × Addr)) (fp : List Addr), DTs (X.blk s H scope (compEnvC scope cl C X.env) fp) T ifs ts)
    (hk : ∀ (s : Shared) (H : Hp) (C : Addr) (cl : List (Str × Addr)) (fp : List Addr), DE (X.blk s H scope (compEnvC scope cl C X.env) fp) T kx ek) (hv : ∀ (s : Shared) (H : Hp) (C : Addr) (cl : List (Str × Addr)) (fp : List Addr), DE (X.blk s H scope (compEnvC scope cl C X.env) fp) T vx ev)
    (hw : ∀ j ∈ t.slots, j ∈ own.map (·.2) := by decide) (hy : X.N[i]? = some y := by rfl) (hyl : X.env.scope.names.lookup y = some .local := by rfl)
    (hsw : swapsWith (.DictComp kx vx [⟨tg, iter, ifs, 0⟩] scope pos) (some (.Name y py)) spos.line X.env = pure true := by exact sw_dict rfl rfl rfl (by decide +kernel)) (hs : ∀ x, foldedSetIterable iter X.env x = pure x := by intro _; rfl) :
    DS X T (.Assign [.Name y py] (.DictComp kx vx [⟨tg, iter, ifs, 0⟩] scope pos) spos) (sOwn i (dcompE (own.map (·.2)) it t ts ek ev)) :=
  ⟨PS.imp (ps_setDc (tk := tDE X.K T ek) (tv := tDE X.K T ev) hc hN hy hyl hsw hi.pi ok (fun s H C cl fp => (hg s H C cl fp).pg) (fun s H C cl fp => (ht s H C cl fp).pt) (fun s H C cl fp => (hk s H C cl fp).pe) (fun s H C cl fp => (hv s H C cl fp).pe) hs) fun Z σ H h => own_of (dc_df hw) h⟩
theorem s_setDc (i : Nat) (hc : X.calm = true) (hN : X.N.Nodup) (hi : DI X T q tg iter it) (ok : BlkOk X.N X.env.scope scope own)
    (hg : ∀ (s : Shared) (H : Hp) (C : Addr) (cl : List (Str × Addr)) (fp : List Addr), DG (X.blk s H scope (compEnvC scope cl C X.env) fp) T tg t) (ht : ∀ (s : Shared) (H : Hp) (C : Addr) (cl : List (Str × Addr)) (fp : List Addr), DTs (X.blk s H scope (compEnvC scope cl C X.env) fp) T ifs ts)
    (hk : ∀ (s : Shared) (H : Hp) (C : Addr) (cl : List (Str × Addr)) (fp : List Addr), DE (X.blk s H scope (compEnvC scope cl C X.env) fp) T kx ek) (hv : ∀ (s : Shared) (H : Hp) (C : Addr) (cl : List (Str × Addr)) (fp : List Addr), DE (X.blk s H scope (compEnvC scope cl C X.env) fp) T vx ev)
    (hw : ∀ j ∈ t.slots, j ∈ own.map (·.2) := by decide) (hy : X.N[i]? = some y := by rfl) (hyl : X.env.scope.names.lookup y = some .local := by rfl)
    (hsw : swapsWith (.DictComp kx vx [⟨tg, iter, ifs, 0⟩] scope pos) (some (.Name y py)) spos.line X.env = pure true := by exact sw_dict rfl rfl rfl (by decide +kernel)) (hs : ∀ x, foldedSetIterable iter X.env x = pure x := by intro _; rfl) :
    DS X T (.Assign [.Name y py] (.DictComp kx vx [⟨tg, iter, ifs, 0⟩] scope pos) spos) (sAsg (.nm i) (dcompE (own.map (·.2)) it t ts ek ev)) :=
  ⟨PS.imp (ps_setDc (tk := tDE X.K T ek) (tv := tDE X.K T ev) hc hN hy hyl hsw hi.pi ok (fun s H C cl fp => (hg s H C cl fp).pg) (fun s H C cl fp => (ht s H C cl fp).pt) (fun s H C cl fp => (hk s H C cl fp).pe) (fun s H C cl fp => (hv s H C cl fp).pe) hs) fun Z σ H h => va_of (dc_df hw) h⟩
end
/-! ### range(a, b, -1) -/
section
variable {X : Cx} {T : List Addr} {a b : Expr} {f g : E} {p pos p1 p2 : Pos} {k1 : Nat}
theorem rgDown_some {r : Env} {ds : List D} (h : rgDownI f g r = some ds) : ∃ x y, f r = some (.int x) ∧ g r = some (.int y) ∧ big62 x = true ∧ big62 y = true ∧ ds = (List.range (x - y).toNat).map fun i : Nat => .int (x - (i : Int)) := by
  simp only [rgDownI, Option.bind_eq_bind, Option.bind_eq_some_iff] at h
  obtain ⟨u, h1, v, h2, h3⟩ := h
  split at h3
  · split at h3
    · rename_i x y hb
      cases h3
      obtain ⟨q1, q2⟩ := Bool.and_eq_true_iff.mp hb
      exact ⟨x, y, h1, h2, q1, q2, rfl⟩
    · cases h3
  · cases h3
theorem it_down {K : PySem.W.Frag} (x : Int) (n : Nat) : ItOk K T [] [] ((List.range n).map fun i : Nat => .int (x - (i : Int))) (Itc x (-1) n) := fun S H t l k _ => by
  refine ⟨fun i hi' => show n ≤ i by simpa using hi', fun i d hd => ?_⟩
  obtain ⟨h1, h2⟩ := List.getElem?_eq_some_iff.mp hd
  have h3 : i < n := by simpa using h1
  refine ⟨h3, fun z H' ⟨e1, e2⟩ => ?_⟩
  subst e1 e2
  refine ⟨Nxt.refl t, ?_⟩
  have e : d = .int (x + (i : Nat) * (-1)) := by
    rw [← h2]
    simp
    omega
  rw [e]
  exact .int _
theorem i_rangeDown {tg : Expr} {q : Bool} (hm : X.mg "range" = none) (ha : DE X T a f) (hb : DE X T b g) (hg : Gl X "range" := by rfl)
    (hs : starEach [a, b, .UnaryOp .USub (.Constant (.int 1) k1 p1) p2] X.env = (false, eval a X.env) :: starEach [b, .UnaryOp .USub (.Constant (.int 1) k1 p1) p2] X.env := by rfl)
    (hs2 : starEach [b, .UnaryOp .USub (.Constant (.int 1) k1 p1) p2] X.env = (false, eval b X.env) :: starEach [.UnaryOp .USub (.Constant (.int 1) k1 p1) p2] X.env := by rfl)
    (hs3 : starEach [.UnaryOp .USub (.Constant (.int 1) k1 p1) p2] X.env = (false, eval (.UnaryOp .USub (.Constant (.int 1) k1 p1) p2) X.env) :: starEach [] X.env := by rfl)
    (hpl : (backTo pos (starEach [b, .UnaryOp .USub (.Constant (.int 1) k1 p1) p2] X.env)).any (·.1) = false := by rfl) :
    DI X T q tg (.Call (.Name "range" p) [a, b, .UnaryOp .USub (.Constant (.int 1) k1 p1) p2] [] pos) (rgDownI f g) :=
  ⟨PI.imp (pi_range3 hg hm (a_cons ha (a_cons hb (a_cons (e_neg e_int) a_nil hs3) hs2) hs).pa hs hpl) fun σ H R ⟨S, r, ds, o, ef, k⟩ => by
    obtain ⟨i, j, e1, e2, b1, b2, rfl⟩ := rgDown_some ef
    have e3 : unE negD (kE (.int 1)) r = some (.int (-1)) := rfl
    refine ⟨S, r, [.int i, .int j, .int (-1)], o, by simp [argsE, e1, e2, e3], fun vs H' n rp => ?_⟩
    cases rp with
    | cons ra rb =>
      cases ra
      cases rb with
      | cons ra rb =>
        cases ra
        cases rb with
        | cons ra rb =>
          cases ra
          cases rb
          obtain ⟨h1, h2⟩ := big_ok b1
          obtain ⟨h3, h4⟩ := big_ok b2
          exact ⟨i, j, -1, _, rfl, RgC.neg h1 h2 h3 h4, k _ H' [] [] n (fun x hx => by simp at hx) Fx.nil (it_down i _)⟩⟩
end
end Dm
end

section
set_option Elab.async false
set_option linter.all false
set_option autoImplicit true
set_option maxRecDepth 100000
/-! DHead: what the head tells, as the walk needs it. -/
namespace Dm
open PySem PySem.Spec PyProof.Rows L2
theorem code_of {K : PySem.W.Frag} {x q : Str} {params : Arguments} {body : List Stmt} {scope : Scope} {dvs : List V} {kws : List (Str × V)} {p : He.Defn} {fd : FuncData} (Fn : FunD K x q params body scope dvs kws (He.fAd K p) fd) : fd.code = .ref (He.codeOf K p) := by
  obtain ⟨oc, od, dV, kV, doc, pm, an, cdv, ct, osl, e, lk, hcd, _, _⟩ := Fn.ex
  obtain ⟨c, hc⟩ := He.codeIn_ref hcd
  have e2 : fd.code = .ref c := by
    rw [e, ← hc] <;> rfl
  rw [He.codeOf_eq lk e2]
  exact e2
theorem tabs_new {cs : List (Addr × Addr)} {H : Hp} (h : ∀ p ∈ cs, H p.2 = some (.tbl #[])) : Tabs (cs.map (·.2)) H := fun P hP => by
  obtain ⟨p, hp, rfl⟩ := List.mem_map.mp hP
  exact ⟨#[], h p hp, by first | exact LamX.TriplesOk.nil | constructor | trivial | (intro x hx; cases hx)⟩
/-- the law's def from what it computes -/
theorem spD_law {K : PySem.W.Frag} {T : List Addr} {F : List D → Option D} {H : Hp} {a : Addr} {ns : List Int} {E : XK} (hT : Tabs T H) (hS : SqL K H a (ns.map V.int)) (hF : F [.list (ns.map .int)] = some (.bool true)) :
    spD K T 1 F [.ref a] H (fun v _ => v = .bl true) E :=
  ⟨[], [.list (ns.map .int)], .bool true, rfl, hT, (fun b hb => by cases hb), .cons (.lst (by rw [mns_nil]; exact hS) (RpAll.ints ns)) .nil, hF, fun v H' _ r => by
    cases r
    rfl⟩
theorem law_at {l : PySem.W.OpenLaw} {w : World} {K : PySem.W.Frag} {h : Heap} {mg : Str → Option Value} {f : Addr} {fd : FuncData} {n k : Nat} {x : Str} {F : List D → Option D} {fa : List He.Fa} {fn : List He.DefD} {ts : List He.Tab} {tf : List He.Defn} {ex : PySem.W.Frag → Bool}
    (X : K.In h) (c : He.SaysX fa fn ts tf ex w h K) (hb : ∀ (s : Shared) (u : Value), BindsTo s fd ⟨[u], []⟩ [(x, u)]) (hF : ∀ ns : List Int, ns.length ≤ n → F [.list (ns.map .int)] = some (.bool true))
    (ok : ∀ base : Heap, K.In base → base.Ns mainGlobals mg → (∀ p ∈ tf, LamX.TabB base mg (He.codeOf K p) (He.cT K p).2) → FnOk l.prog w K mg base CX0 k f fd [x] (spD K ((tf.map (He.cT K)).map (·.2)) 1 F)) : LamX.LawAtS l w K CX0 k n x mg f h := by
  refine ⟨fd, tf.map (He.cT K), _, fun p hp => ?_, fun p hp => ?_, fun p hp => ?_, hb, fun H a ns hl _ hT hS => spD_law (tabs_new hT) hS (hF ns hl), fun base bX bG TB => ok base bX bG fun p hp => TB _ (List.mem_map_of_mem hp)⟩
  · obtain ⟨q, hq, rfl⟩ := List.mem_map.mp hp
    exact c.empty q hq
  · obtain ⟨q, hq, rfl⟩ := List.mem_map.mp hp
    exact c.out q hq
  · obtain ⟨q, hq, rfl⟩ := List.mem_map.mp hp
    exact PySem.W.codeHd_of_K X (c.hd q hq)
theorem tab_in {K : PySem.W.Frag} {tf : List He.Defn} {p : He.Defn} (h : p ∈ tf) : (He.cT K p).2 ∈ (tf.map (He.cT K)).map (·.2) := List.mem_map_of_mem (List.mem_map_of_mem h)
end Dm
end

section
set_option autoImplicit false
set_option linter.all false
/-! DSem2: more combinators. -/
namespace Dm
open PySem PySem.W
/-- {k: v}, k an int or a text -/
def disp1E (k v : E) : E := fun r => do
  let a ← k r
  let b ← v r
  if flatK a then some (.dict [(a, b)]) else none
/-- c.get(k), c not empty -/
def get1E (c k : E) : E := fun r => do match ← c r with
  | .dict kvs => do
    let a ← k r
    if fitsK kvs a && !kvs.isEmpty then some ((lookD kvs a).getD .none) else none
  | _ => none
/-- tuples of ints -/
def tupsOf : List D → Option (List (List Int))
  | [] => some []
  | .tuple xs :: r => do
    let a ← intsOf xs
    let b ← tupsOf r
    some (a :: b)
  | _ :: _ => none
def dedupT : List (List Int) → List (List Int)
  | [] => []
  | x :: xs => if x ∈ xs then dedupT xs else x :: dedupT xs
def tupD' (k : List Int) : D := .tuple (k.map .int)
/-- sorted(set(xs)), xs a list of tuples of ints, none empty, fewer than 64 -/
def sortSetTD : D → Option D
  | .list xs => match tupsOf xs with
    | some ns => if decide (ns.length < 64) && ns.all (fun n => !n.isEmpty) then some (.list (((dedupT ns).map tupD').mergeSort leB)) else none
    | none => none
  | _ => none
/-- of ints or of tuples of ints -/
def sortSetA (d : D) : Option D := match sortSetD d with
  | some x => some x
  | none => sortSetTD d
end Dm
end

section
set_option Elab.async false
set_option linter.all false
set_option autoImplicit true
set_option maxRecDepth 100000
set_option maxHeartbeats 1000000
/-! DComp2: list comprehensions of two clauses; the inner one walks values that stay. -/
namespace Dm
open PySem PySem.Spec PyProof.Rows L2
section
variable {X : Cx} {T : List Addr} {e a b c : Expr} {es rest : List Expr} {f g h : E} {fs : List E} {pos p : Pos}
theorem wipeE_ow {r : Env} : ∀ {vs : List Nat} {i : Nat} {e : D}, (wipeE r vs)[i]? = some (.ow e) → r[i]? = some (.ow e) ∧ i ∉ vs
  | [], i, e, h => ⟨h, by simp⟩
  | v :: vs, i, e, h => by
    unfold wipeE at h
    by_cases hv : v = i
    · subst hv
      rw [List.getElem?_set_self'] at h
      cases hr : (wipeE r vs)[v]? <;> rw [hr] at h <;> simp at h
    · rw [List.getElem?_set_ne hv] at h
      obtain ⟨h1, h2⟩ := wipeE_ow h
      exact ⟨h1, by rw [List.mem_cons, not_or]; exact ⟨fun z => hv z.symm, h2⟩⟩
theorem comp2L_cons {r : Env} {tg tg2 : Tg} {ts ts2 : Dm.T} {own2 : List Nat} {it2 : I} {el : E} {x : D} {xs ys : List D} (h : comp2L r tg ts own2 it2 tg2 ts2 el (x :: xs) = some ys) :
    ∃ r1 k, asg tg x r = some r1 ∧ ts r1 = some k ∧ if k = true then ∃ zs y ys', it2 r1 = some zs ∧ compL (wipeE r1 own2) tg2 ts2 el zs = some y ∧ comp2L r tg ts own2 it2 tg2 ts2 el xs = some ys' ∧ ys = y ++ ys' else comp2L r tg ts own2 it2 tg2 ts2 el xs = some ys := by
  simp only [comp2L, Option.bind_eq_bind, Option.bind_eq_some_iff] at h
  obtain ⟨r1, h1, k, h2, h3⟩ := h
  refine ⟨r1, k, h1, h2, ?_⟩
  cases k with
  | true =>
    simp only [if_true, Option.bind_eq_some_iff] at h3 ⊢
    obtain ⟨zs, h4, y, h5, ys', h6, h7⟩ := h3
    exact ⟨zs, y, ys', h4, h5, h6, (Option.some.inj h7).symm⟩
  | false => simpa using h3
/-- the heap from H on, but for what stands at D -/
structure NxD (T : List Addr) (D : Addr) (H H' : Hp) : Prop where
  ext : ∀ b x, b ≠ D → H b = some x → (∀ ps, x ≠ .tbl ps) → H' b = some x
  tabs : Tabs T H'
  tbl : ∀ b ps, H b = some (.tbl ps) → ∃ ps', H' b = some (.tbl ps')
theorem NxD.of {D : Addr} {H H' : Hp} (n : Nxt T H H') : NxD T D H H' := ⟨fun b x _ e nt => n.ext b x e nt, n.tabs, n.tbl⟩
theorem NxD.trans {D : Addr} {H H1 H2 : Hp} (a : NxD T D H H1) (b : NxD T D H1 H2) : NxD T D H H2 := ⟨fun c x hc e nt => b.ext c x hc (a.ext c x hc e nt) nt, b.tabs, fun c ps e => by
  obtain ⟨ps', e'⟩ := a.tbl c ps e
  exact b.tbl c ps' e'⟩
theorem NxD.put {D : Addr} {H : Hp} {u o : HO} (t : Tabs T H) (h : H D = some u) (nu : NT u) : NxD T D H (upd H D o) := ⟨fun b x hb e _ => by rw [upd_ne hb]; exact e, tabs_upd t fun ps z => by rw [h] at z; cases z; exact nu.tbl _ rfl, fun b ps e => ⟨ps, by rw [upd_ne fun z => by subst z; rw [h] at e; cases e; exact nu.tbl _ rfl]; exact e⟩⟩
theorem NxD.le {D : Addr} {S : List Addr} {H H' : Hp} (n : NxD T D H H') : Le (mns (D :: S) H) (mns (D :: S) H') := by
  have key : ∀ a x, (∀ ps, x ≠ HO.tbl ps) → mns (D :: S) H a = some x → mns (D :: S) H' a = some x := fun a x nt h => by
    obtain ⟨h1, h2⟩ := mns_some h
    rw [mns_of h2]
    exact n.ext a x (fun z => h2 (by rw [z]; exact List.mem_cons_self)) h1 nt
  refine ⟨fun a u g h => ?_, fun a xs h => key a _ (fun _ z => by cases z) h, fun a u g h => key a u (fun ps z => by rcases g with rfl | rfl <;> cases z) h⟩
  rcases h with h | ⟨o, h⟩
  · exact .inl (key a u (fun ps z => by subst z; exact g) h)
  · exact .inr ⟨o, key a _ (fun ps z => by cases z) h⟩
theorem NxD.fx {D : Addr} {S : List Addr} {fx : Fxs} {H H' : Hp} (n : NxD T D H H') (f : Fx fx (D :: S) H) : Fx fx (D :: S) H' := fun q h => by
  obtain ⟨h1, h2, h3⟩ := f q h
  exact ⟨n.ext _ _ (fun z => h2 (by rw [z]; exact List.mem_cons_self)) h1 h3, h2, h3⟩
theorem RpAll.app {K : PySem.W.Frag} {H : Hp} {vs : List V} {ds : List D} {v : V} {d : D} (h : RpAll K H vs ds) (q : Rp K H v d) : RpAll K H (vs ++ [v]) (ds ++ [d]) := h.append (.cons q .nil)
/-- the reading of a list comprehension of two clauses -/
theorem lc2_read {K : PySem.W.Frag} {q : Bool} {it it2 : I} {t t2 : Tg} {ts ts2 : Dm.T} {el : E} {own own2 : List Nat} (hw : ∀ j ∈ t.slots, j ∈ own) (hw2 : ∀ j ∈ t2.slots, j ∈ own2) {σ : L2.St} {H : Hp} {Q : VK} {S : List Addr} {r : Env} {d : D} (o : EnvOk K T S H σ r) (ef : lstI (comp2I own it t ts own2 it2 t2 ts2 el) r = some d)
    (k : ∀ p H', H p = none → Nxt T H H' → Own K (p :: S) H' p d → Q (.ref p) H') : tLc2 (tDI K T q it) (tDG K T t) (tDT K T ts) (tDI K T false it2) (tDG K T t2) (tDT K T ts2) (tDE K T el) own own2 σ H Q := by
  simp only [lstI, comp2I, Option.bind_eq_bind, Option.bind_eq_some_iff] at ef
  obtain ⟨ys, ⟨ds, e1, zs, e2, e3⟩, e4⟩ := ef
  unfold fitL at e3
  split at e3
  · rename_i hz
    have e3 := Option.some.inj e3
    subst e3
    cases e4
    have hz := lenOk_le hz
    refine ⟨S, r, ds, o, e1, fun J H1 kp fx n1 hk hfx hit D hD => ?_⟩
    have lv1 : Live S H1 := o.live.ext n1.ext
    have hD0 : H D = none := n1.free hD
    have hDS : D ∉ S := lv1.new hD
    let W : Nat → Nat → Hp → Prop := fun i m Hc => ∃ acc pre post, i + m = ds.length ∧ Hc D = some (.lst acc) ∧ RpAll K (mns (D :: S) Hc) acc pre ∧ comp2L (wipeE r own) t ts own2 it2 t2 ts2 el (ds.drop i) = some post ∧ zs = pre ++ post ∧ Nxt T H1 Hc
    refine ⟨W, ⟨ds.length, [], [], zs, by omega, upd_same, .nil, by simpa using e2, rfl, nxt_new n1.tabs hD⟩, ?_⟩
    rintro i m Hc ⟨acc, pre, post, him, hc, ra, ec, ez, nc⟩
    have eo : EnvOk K T (D :: S) Hc σ r := (o.nxt n1).more hD nc hc (NT.lst acc)
    have ew := eo.wipe own
    have kc : ∀ x ∈ kp, RpB K (D :: S) Hc x.1 x.2 := fun x hx => ((hk x hx).more lv1 hD nc).look
    obtain ⟨st, go⟩ := hit (D :: S) Hc eo.tabs eo.live kc (hfx.more hD nc)
    by_cases hi : ds.length ≤ i
    · refine .inl ⟨st i hi, ?_⟩
      rw [List.drop_eq_nil_of_le hi] at ec
      simp only [comp2L, Option.some.injEq] at ec
      subst ec
      rw [List.append_nil] at ez
      subst ez
      exact k D Hc hD0 (n1.trans nc) (.lst hc ra)
    · have hi' : i < ds.length := Nat.lt_of_not_le hi
      have hx : ds[i]? = some ds[i] := List.getElem?_eq_getElem hi'
      obtain ⟨g1, g2⟩ := go i _ hx
      rw [List.drop_eq_getElem_cons hi'] at ec
      obtain ⟨r1, b, f1, f2, f3⟩ := comp2L_cons ec
      refine .inr ⟨g1, fun H' => W (i + 1) (m - 1) H', fun H' w' => ⟨m - 1, by omega, w'⟩, fun x H2 y => ?_⟩
      obtain ⟨n2, rx⟩ := g2 x H2 y
      refine ⟨D :: S, _, _, r1, ew.nxt n2, rx, f1, fun σ' o' u' => ⟨u'.wipe hw, D :: S, r1, b, o', f2, fun H3 n3 => ?_⟩⟩
      have hc3 : H3 D = some (.lst acc) := n3.ext _ _ (n2.ext _ _ hc fun _ z => by cases z) fun _ z => by cases z
      cases b with
      | false =>
        rw [if_neg Bool.false_ne_true] at f3
        show W (i + 1) (m - 1) H3
        exact ⟨acc, pre, post, by omega, hc3, ra.le (le_mns (n2.trans n3).le), f3, ez, nc.trans (n2.trans n3)⟩
      | true =>
        rw [if_pos rfl] at f3
        obtain ⟨zs2, ys2, yss, h4, h5, h6, rfl⟩ := f3
        -- no name of the inner frame holds the new list
        have free : ∀ (j : Nat) e, r1[j]? = some (.ow e) → σ'[j]? ≠ some (some (.ref D)) := fun j e hj z => by
          obtain ⟨a1, a2⟩ := asg_ow _ f1 hj
          obtain ⟨a3, a4⟩ := wipeE_ow a1
          rw [u'.2 j a2, wipe_get, if_neg a4] at z
          obtain ⟨v, hv, p, hp1, hp2, _⟩ := o.at a3
          rw [z] at hv
          cases hv
          cases hp1
          exact hDS hp2
        show tDI K T false it2 σ' H3 _
        refine ⟨D :: S, r1, zs2, o'.nxt n3, h4, fun J2 H4 kp2 fx2 n4 hk2 hfx2 hit2 => ?_⟩
        have o4 := (o'.nxt n3).nxt n4
        have hc4 : H4 D = some (.lst acc) := n4.ext _ _ hc3 fun _ z => by cases z
        have n14 : Nxt T H1 H4 := nc.trans ((n2.trans n3).trans n4)
        let W2 : Nat → Nat → Hp → Prop := fun j m2 Hd => ∃ acc2 pre2 post2, j + m2 = zs2.length ∧ Hd D = some (.lst acc2) ∧ RpAll K (mns (D :: S) Hd) acc2 (pre ++ pre2) ∧ compL (wipeE r1 own2) t2 ts2 el (zs2.drop j) = some post2 ∧ ys2 = pre2 ++ post2 ∧ Nxt T H1 Hd ∧ NxD T D H4 Hd ∧ EnvOk K T (D :: S) Hd σ' r1
        refine ⟨W2, ⟨zs2.length, acc, [], ys2, by omega, hc4, by simpa using ra.le (le_mns ((n2.trans n3).trans n4).le), by simpa using h5, rfl, n14, .of (Nxt.refl n4.tabs), o4⟩, ?_⟩
        rintro j m2 Hd ⟨acc2, pre2, post2, hjm, hd, ra2, ec2, ez2, nd, nxd, od⟩
        have kc2 : ∀ x ∈ kp2, RpB K (D :: S) Hd x.1 x.2 := fun x hx => .inl (Rp.le nxd.le (hk2 x hx))
        obtain ⟨st2, go2⟩ := hit2 (D :: S) Hd od.tabs od.live kc2 (nxd.fx hfx2)
        by_cases hj : zs2.length ≤ j
        · refine .inl ⟨st2 j hj, ?_⟩
          rw [List.drop_eq_nil_of_le hj] at ec2
          simp only [compL, Option.some.injEq] at ec2
          subst ec2
          rw [List.append_nil] at ez2
          subst ez2
          show W (i + 1) (m - 1) Hd
          exact ⟨acc2, pre ++ ys2, yss, by omega, hd, ra2, h6, by rw [ez, List.append_assoc], nd⟩
        · have hj' : j < zs2.length := Nat.lt_of_not_le hj
          have hx2 : zs2[j]? = some zs2[j] := List.getElem?_eq_getElem hj'
          obtain ⟨g3, g4⟩ := go2 j _ hx2
          rw [List.drop_eq_getElem_cons hj'] at ec2
          obtain ⟨r2, b2, p1, p2, p3⟩ := compL_cons ec2
          refine .inr ⟨g3, fun H' => W2 (j + 1) (m2 - 1) H', fun H' w' => ⟨m2 - 1, by omega, w'⟩, fun x2 H5 y2 => ?_⟩
          obtain ⟨n5, rx2⟩ := g4 x2 H5 y2
          have ow := (od.wipe own2).nxt n5
          refine ⟨D :: S, _, _, r2, ow, rx2, p1, fun σ2 o2 u2 => ⟨u2.wipe hw2, D :: S, r2, b2, o2, p2, fun H6 n6 => ?_⟩⟩
          have hd6 : H6 D = some (.lst acc2) := n6.ext _ _ (n5.ext _ _ hd fun _ z => by cases z) fun _ z => by cases z
          cases b2 with
          | false =>
            rw [if_neg Bool.false_ne_true] at p3
            show W2 (j + 1) (m2 - 1) H6
            exact ⟨acc2, pre2, post2, by omega, hd6, ra2.le (le_mns (n5.trans n6).le), p3, ez2, nd.trans (n5.trans n6), nxd.trans (.of (n5.trans n6)), od.nxt (n5.trans n6)⟩
          | true =>
            rw [if_pos rfl] at p3
            show tDE K T el σ2 H6 _
            obtain ⟨y', ys', q3, q4, rfl⟩ := p3
            refine ⟨D :: S, r2, y', o2.nxt n6, q3, fun v H7 n7 rv => ?_⟩
            have hd7 : H7 D = some (.lst acc2) := n7.ext _ _ hd6 fun _ z => by cases z
            have n57 := (n5.trans n6).trans n7
            refine ⟨acc2, hd7, ?_, acc2 ++ [v], pre2 ++ [y'], ys', by omega, upd_same, ?_, q4, by rw [ez2]; simp, ?_, ?_, ?_⟩
            · have h1 := ra2.length
              have h2 : zs.length = pre.length + (pre2.length + (ys'.length + 1) + yss.length) := by rw [ez, ez2]; simp; omega
              rw [List.length_append] at h1
              omega
            · rw [mns_upd, ← List.append_assoc]
              exact (ra2.le (le_mns n57.le)).append (.cons rv .nil)
            · exact (nd.trans n57).grow hD hd7 (NT.lst _)
            · exact (nxd.trans (.of n57)).trans (.put n7.tabs hd7 (NT.lst _))
            · exact (od.nxt n57).grown hd7 (NT.lst _) (NT.lst _) free
  · cases e3
theorem f_lc2 {elt tg iter tg1 iter1 : Expr} {ifs ifs1 : List Expr} {scope : Scope} {own : List (Str × Nat)} (own2 : List Nat) {q : Bool} {it it2 : I} {t t2 : Tg} {ts ts2 : Dm.T} {el : E} (hc : X.calm = true) (hN : X.N.Nodup) (hi : DI X T q tg iter it) (ok : BlkOk X.N X.env.scope scope own)
    (hg : ∀ (s : Shared) (H : Hp) (C : Addr) (cl : List (Str × Addr)) (fp : List Addr), DG (X.blk s H scope (compEnvC scope cl C X.env) fp) T tg t) (ht : ∀ (s : Shared) (H : Hp) (C : Addr) (cl : List (Str × Addr)) (fp : List Addr), DTs (X.blk s H scope (compEnvC scope cl C X.env) fp) T ifs ts)
    (hi1 : ∀ (s : Shared) (H : Hp) (C : Addr) (cl : List (Str × Addr)) (fp : List Addr), DI (X.blk s H scope (compEnvC scope cl C X.env) fp) T false tg1 iter1 it2)
    (hg1 : ∀ (s : Shared) (H : Hp) (C : Addr) (cl : List (Str × Addr)) (fp : List Addr), DG (X.blk s H scope (compEnvC scope cl C X.env) fp) T tg1 t2) (ht1 : ∀ (s : Shared) (H : Hp) (C : Addr) (cl : List (Str × Addr)) (fp : List Addr), DTs (X.blk s H scope (compEnvC scope cl C X.env) fp) T ifs1 ts2)
    (he : ∀ (s : Shared) (H : Hp) (C : Addr) (cl : List (Str × Addr)) (fp : List Addr), DE (X.blk s H scope (compEnvC scope cl C X.env) fp) T elt el) (hv : ∀ i ∈ own2, i ∈ own.map (·.2) := by decide) (hw : ∀ j ∈ t.slots, j ∈ own.map (·.2) := by decide) (hw2 : ∀ j ∈ t2.slots, j ∈ own2 := by decide) (hs : ∀ x, foldedSetIterable iter X.env x = pure x := by intro _; rfl) (hs1 : ∀ env x, foldedSetIterable iter1 env x = pure x := by intro _ _; rfl) :
    DF X T (.ListComp elt [⟨tg, iter, ifs, 0⟩, ⟨tg1, iter1, ifs1, 0⟩] scope pos) (lstI (comp2I (own.map (·.2)) it t ts own2 it2 t2 ts2 el)) :=
  ⟨PE.imp (pe_lc2 hc hN hi.pi ok hv (fun s H C cl fp => (hg s H C cl fp).pg) (fun s H C cl fp => (ht s H C cl fp).pt) (fun s H C cl fp => (hi1 s H C cl fp).pi) (fun s H C cl fp => (hg1 s H C cl fp).pg) (fun s H C cl fp => (ht1 s H C cl fp).pt) (fun s H C cl fp => (he s H C cl fp).pe) hs hs1) fun σ H Q ⟨S, r, d, o, ef, k⟩ => lc2_read hw hw2 o ef k⟩
end
end Dm
end

section
set_option Elab.async false
set_option linter.all false
set_option autoImplicit true
set_option maxRecDepth 100000
set_option maxHeartbeats 1000000
/-! DRule1: rules for a dict display of one pair, .get, names that are set by comprehensions of two clauses. -/
namespace Dm
open PySem PySem.Spec PyProof.Rows L2
section
variable {X : Cx} {T : List Addr} {e a b c o : Expr} {es rest : List Expr} {f g h : E} {fs : List E} {pos p cpos apos : Pos}
theorem f_disp1 (hk : DE X T a f) (hv : DE X T b g) : DF X T (.Dict [some a] [b] pos) (disp1E f g) :=
  ⟨PE.imp (pe_disp (pps_cons hk.pe hv.pe pps_nil) rfl rfl (by simp) (by simp)) fun σ H Q ⟨S, r, d, o, ef, k⟩ p hp => by
    simp only [disp1E, Option.bind_eq_bind, Option.bind_eq_some_iff] at ef
    obtain ⟨x, e1, y, e2, e3⟩ := ef
    split at e3
    · rename_i hfl
      cases e3
      obtain ⟨ky, rfl⟩ := flatK_key hfl
      have n0 : Nxt T H (upd H p (.dK [])) := nxt_new o.tabs hp
      have o0 : EnvOk X.K T (p :: S) (upd H p (.dK [])) σ r := o.more hp n0 upd_same (NT.dK _)
      refine ⟨p :: S, r, _, o0, e1, fun v1 H1 n1 r1 => ⟨p :: S, r, _, o0.nxt n1, e2, fun v2 H2 n2 r2 => ?_⟩⟩
      have hp2 : H2 p = some (.dK []) := n2.ext _ _ (n1.ext _ _ upd_same fun _ z => by cases z) fun _ z => by cases z
      have ek : v1 = kV ky := kD_kV r1
      subst ek
      refine ⟨hp2, [(ky, v2)], rfl, by simp, ?_⟩
      have em : mergeK [] [(ky, v2)] = [(ky, v2)] := rfl
      rw [em]
      exact k p _ hp ((n0.trans (n1.trans n2)).grow hp hp2 (NT.dK _)) (.dk upd_same (by rw [mns_upd]; exact .cons r2 .nil))
    · cases e3⟩
theorem e_get1 (hu : X.A.units + 1 < cLine) (ho : DB X T o f) (he : DE X T e g) (m : M1 X o "get" apos e cpos := by exact ⟨rfl, rfl, rfl, rfl⟩) : DE X T (.Call (.Attribute o "get" apos) [e] [] cpos) (get1E f g) :=
  ⟨PE.imp (pe_dget1 hu ho.pe he.pe m) fun σ H Q ⟨S, r, d, eo, ef, k⟩ => by
    simp only [get1E, Option.bind_eq_bind, Option.bind_eq_some_iff] at ef
    obtain ⟨x, e1, e2⟩ := ef
    split at e2
    · rename_i kvs
      simp only [Option.bind_eq_some_iff] at e2
      obtain ⟨y, e3, e4⟩ := e2
      split at e4
      · rename_i hf
        cases e4
        simp only [Bool.and_eq_true, Bool.not_eq_true'] at hf
        have hne : kvs ≠ [] := fun z => by subst z; simp at hf
        refine ⟨S, r, _, eo, e1, fun v1 H1 n1 r1 => ?_⟩
        obtain ⟨a, rfl, hd⟩ := r1.dict
        refine ⟨a, rfl, ?_, S, r, y, eo.nxt n1, e3, fun v2 H2 n2 r2 => ?_⟩
        · rcases hd with ⟨ks, q, _⟩ | ⟨ks, q, _⟩
          · exact .inl ⟨ks, q⟩
          · exact .inr ⟨ks, q⟩
        · obtain ⟨a', ea, q⟩ := dget_of (r1.nxt n2) (.inl r2) hf.1 hne
          cases ea
          rcases q with ⟨q1, q2⟩ | ⟨e, v, q1, q2, q3⟩
          · refine ⟨none, q2, k _ _ (n1.trans n2) ?_⟩
            rw [q1]
            exact .non
          · refine ⟨some v, q2, k _ _ (n1.trans n2) ?_⟩
            rw [q1]
            exact q3
      · cases e4
    · cases e2⟩
section
variable {elt tg iter tg1 iter1 : Expr} {ifs ifs1 : List Expr} {scope : Scope} {own : List (Str × Nat)} {q : Bool} {it it2 : I} {t t2 : Tg} {ts ts2 : Dm.T} {el : E} {y : Str} {py spos : Pos}
theorem lc2_df {K : PySem.W.Frag} {own own2 : List Nat} (hw : ∀ j ∈ t.slots, j ∈ own) (hw2 : ∀ j ∈ t2.slots, j ∈ own2) : tDF' K T (lstI (comp2I own it t ts own2 it2 t2 ts2 el)) (tLc2 (tDI K T q it) (tDG K T t) (tDT K T ts) (tDI K T false it2) (tDG K T t2) (tDT K T ts2) (tDE K T el) own own2) := fun σ H Q ⟨S, r, d, o, ef, k⟩ => lc2_read hw hw2 o ef k
theorem s_setLc2 (i : Nat) (own2 : List Nat) (hc : X.calm = true) (hN : X.N.Nodup) (hi : DI X T q tg iter it) (ok : BlkOk X.N X.env.scope scope own)
    (hg : ∀ (s : Shared) (H : Hp) (C : Addr) (cl : List (Str × Addr)) (fp : List Addr), DG (X.blk s H scope (compEnvC scope cl C X.env) fp) T tg t) (ht : ∀ (s : Shared) (H : Hp) (C : Addr) (cl : List (Str × Addr)) (fp : List Addr), DTs (X.blk s H scope (compEnvC scope cl C X.env) fp) T ifs ts)
    (hi1 : ∀ (s : Shared) (H : Hp) (C : Addr) (cl : List (Str × Addr)) (fp : List Addr), DI (X.blk s H scope (compEnvC scope cl C X.env) fp) T false tg1 iter1 it2)
    (hg1 : ∀ (s : Shared) (H : Hp) (C : Addr) (cl : List (Str × Addr)) (fp : List Addr), DG (X.blk s H scope (compEnvC scope cl C X.env) fp) T tg1 t2) (ht1 : ∀ (s : Shared) (H : Hp) (C : Addr) (cl : List (Str × Addr)) (fp : List Addr), DTs (X.blk s H scope (compEnvC scope cl C X.env) fp) T ifs1 ts2)
    (he : ∀ (s : Shared) (H : Hp) (C : Addr) (cl : List (Str × Addr)) (fp : List Addr), DE (X.blk s H scope (compEnvC scope cl C X.env) fp) T elt el) (hv : ∀ i ∈ own2, i ∈ own.map (·.2) := by decide) (hw : ∀ j ∈ t.slots, j ∈ own.map (·.2) := by decide) (hw2 : ∀ j ∈ t2.slots, j ∈ own2 := by decide)
    (hy : X.N[i]? = some y := by rfl) (hyl : X.env.scope.names.lookup y = some .local := by rfl) (hsw : swapsWith (.ListComp elt [⟨tg, iter, ifs, 0⟩, ⟨tg1, iter1, ifs1, 0⟩] scope pos) (some (.Name y py)) spos.line X.env = pure true := by exact sw_true rfl rfl rfl (by decide +kernel))
    (hs : ∀ x, foldedSetIterable iter X.env x = pure x := by intro _; rfl) (hs1 : ∀ env x, foldedSetIterable iter1 env x = pure x := by intro _ _; rfl) :
    DS X T (.Assign [.Name y py] (.ListComp elt [⟨tg, iter, ifs, 0⟩, ⟨tg1, iter1, ifs1, 0⟩] scope pos) spos) (sAsg (.nm i) (lstI (comp2I (own.map (·.2)) it t ts own2 it2 t2 ts2 el))) :=
  ⟨PS.imp (ps_setLc2 hc hN hy hyl hsw hi.pi ok hv (fun s H C cl fp => (hg s H C cl fp).pg) (fun s H C cl fp => (ht s H C cl fp).pt) (fun s H C cl fp => (hi1 s H C cl fp).pi) (fun s H C cl fp => (hg1 s H C cl fp).pg) (fun s H C cl fp => (ht1 s H C cl fp).pt) (fun s H C cl fp => (he s H C cl fp).pe) hs hs1) fun Z σ H h => va_of (lc2_df hw hw2) h⟩
end
end
end Dm
end

section
set_option Elab.async false
set_option linter.all false
set_option autoImplicit true
set_option maxRecDepth 100000
set_option maxHeartbeats 1000000
/-! DSetT: sorted(set(xs)) of a list of tuples of ints. -/
namespace L2
open PySem PySem.Spec PyProof.Rows
section
variable {P : Program} {w : World} {A : Around} {E : Value → Shared → Prop} {s : Shared}
theorem dm_call_sort {κ : KeyKind} {a : Addr} {vs : List Value} {n : Nat} {Q : Value → Shared → Prop} (ho : s.heap.get? a = some (seqObj "list" vs.toArray n)) (S : PySem.W.SortsAt P w A.in1 { s with heap := PySem.W.sortingHeap s.heap a vs } κ vs) (hL : vs.length ≤ sizeLine)
    (h : Q .none { s with heap := sortedHeap s.heap a vs (PySem.W.sortVals κ false vs vs).toArray }) : wpAny (model P w) A (call (.builtin "list.sort") [.ref a]) Q E s :=
  wpAny_call_entry slot_list_sort ⟨_, ho, rfl⟩ entry_list_sort (PySem.W.list_sort_vals ho S hL ⟨_, rfl, h⟩) (args_list_sort _)
def encT (q : Addr × List Int) : PyData := .tuple (q.2.map .int)
theorem reads_ints {h : Heap} : ∀ {k : List Int} {vs : List Value}, IntsAre vs k → ∃ as, ReadsAll h vs (k.map PyData.int) as
  | _, _, .nil => ⟨[], .nil⟩
  | _, _, .cons n t r => by
    obtain ⟨as, q⟩ := reads_ints r
    exact ⟨_, .cons (.int n t) q⟩
theorem reads_isT {h : Heap} {k : List Int} {b : Addr} (x : IsT P w h k b) : ∃ as, Reads h (.ref b) (.tuple (k.map .int)) as := by
  obtain ⟨o, items, n, ho, hc, hd, hi⟩ := x
  obtain ⟨as, q⟩ := reads_ints (h := h) (ints_of_items hi)
  exact ⟨_, .tuple ho hc hd q⟩
theorem each_of {α β : Type} {R : α → β → Prop} {f : β → α} : ∀ (bs : List β), (∀ b ∈ bs, R (f b) b) → PySem.W.EachIs R (bs.map f) bs
  | [], _ => .nil
  | b :: bs, h => .cons (h b List.mem_cons_self) (each_of bs fun c hc => h c (List.mem_cons_of_mem _ hc))
theorem map_of_each {α β : Type} {f : β → α} : ∀ {as : List α} {bs : List β}, PySem.W.EachIs (fun a b => a = f b) as bs → as = bs.map f
  | _, _, .nil => rfl
  | _, _, .cons h r => by rw [h, map_of_each r]; rfl
theorem depth_ints : ∀ k : List Int, PyData.depthAll (k.map PyData.int) = 0
  | [] => by rw [List.map_nil, PyData.depthAll]
  | x :: k => by rw [List.map_cons, PyData.depthAll, depth_ints k, PyData.depth]; rfl
theorem alike_ints : ∀ k l : List Int, PySem.W.alikeAll (k.map PyData.int) (l.map PyData.int) = true
  | [], _ => by simp [PySem.W.alikeAll]
  | _ :: _, [] => by simp [PySem.W.alikeAll]
  | a :: k, b :: l => by rw [List.map_cons, List.map_cons, PySem.W.alikeAll, alike_ints k l]; rfl
theorem sorted_setTD {a : Addr} {L : List (Addr × List Int)} {es : Array (Int × Value)} {ep : Nat} {t : SetTable} {Q : Value → Shared → Prop} (R : SetTR P w s.heap a L es ep t) (hh : A.handled = none) (hu : A.units + 10 < cLine)
    (hne : ∀ p ∈ L, p.2 ≠ [])
    (hQ : ∀ s' p (out : Array Value) (c : Nat) (L1 : List (Addr × List Int)), (∀ b o, s.heap.get? b = some o → s'.heap.get? b = some o) → s'.gens = s.gens → s'.os = s.os → s.heap.objs.size ≤ p →
      s'.heap.get? p = some (seqObj "list" out c) → L1.Perm L → out.toList = (L1.mergeSort (PySem.W.dataLe false encT)).map (fun q => Value.ref q.1) → Q (.ref p) s') :
    wpAny (model P w) A (call (.builtin "sorted") [.ref a]) Q E s := by
  obtain ⟨o, ho, hex, hd⟩ := R.ob
  have hsz := R.size
  have hfew := R.few
  refine Calls.call_function_entry kind_sorted plain_sorted entry_sorted (args_sorted1 _) ?_
  unfold Builtin.«sorted»
  refine wpAny_bind (m := checkCount "sorted" 1 1 _) (wpAny_pure ?_)
  refine wpAny_bind (collect_set (A := A.in1) hh ⟨o, ho, hex.1, hd⟩ R.fits (by unfold scanBound; omega) R.tab.ris R.led fun s1 vs k1 hz g1 o1 pm => ?_)
  have hes : es.toList.map (·.2) = L.map fun q => Value.ref q.1 := by
    rw [R.rows]
    unfold rowsOf
    rw [List.map_map] <;> rfl
  rw [hes] at pm
  have ord : ∀ vs : List Value, (∀ v ∈ vs, ∃ q ∈ L, v = Value.ref q.1) → ∃ L1 : List (Addr × List Int), vs = L1.map (fun q => Value.ref q.1) ∧ ∀ q ∈ L1, q ∈ L := by
    intro vs
    induction vs with
    | nil => intro _; exact ⟨[], rfl, fun q hq => (by cases hq)⟩
    | cons v vs ih =>
      intro hv
      obtain ⟨q, hq, e⟩ := hv v List.mem_cons_self
      obtain ⟨L1, e1, hs⟩ := ih fun u hu => hv u (List.mem_cons_of_mem _ hu)
      refine ⟨q :: L1, by rw [List.map_cons, e, e1], fun r hr => ?_⟩
      rcases List.mem_cons.mp hr with z | z
      · rw [z]; exact hq
      · exact hs r z
  have one : ∀ q ∈ L, ∀ r ∈ L, q.1 = r.1 → q = r := fun q hq r hr e => by
    have a1 := R.tup q hq
    have a2 := R.tup r hr
    rw [e] at a1
    have e2 : q.2 = r.2 := a1.inj a2
    exact Prod.ext e e2
  have perm_of : ∀ L1 : List (Addr × List Int), (∀ q ∈ L1, q ∈ L) → (L1.map (fun q => Value.ref q.1)).Perm (L.map fun q => Value.ref q.1) → L1.Perm L := by
    intro L1 hs pm1
    have nL : L.Nodup := nodup_of_map R.nd
    have nref : (L.map fun q => Value.ref q.1).Nodup := by
      refine List.pairwise_map.mpr (List.Pairwise.imp_of_mem (fun {q r} hq hr hne e => ?_) nL)
      injection e with e
      exact hne (one q hq r hr e)
    have n1 : L1.Nodup := nodup_of_map (pm1.nodup_iff.mpr nref)
    refine (List.perm_ext_iff_of_nodup n1 nL).mpr fun q => ⟨hs q, fun hq => ?_⟩
    have hm : Value.ref q.1 ∈ L1.map (fun q => Value.ref q.1) := pm1.mem_iff.mpr (List.mem_map.mpr ⟨q, hq, rfl⟩)
    obtain ⟨r, hr, e⟩ := List.mem_map.mp hm
    injection e with e
    rw [← one r (hs r hr) q hq e]
    exact hr
  have hvl : vs.length < 64 := by rw [pm.length_eq, List.length_map]; exact hfew
  obtain ⟨L1, e1, hs1⟩ := ord vs fun v hv => by
    obtain ⟨q, hq, e⟩ := List.mem_map.mp (pm.mem_iff.mp hv)
    exact ⟨q, hq, e.symm⟩
  have pL : L1.Perm L := perm_of L1 hs1 (by rw [← e1]; exact pm)
  refine wpAny_bind (wpAny_newList ?_ (by rw [sizeLine_eq]; omega))
  have hoL : (s1.heap.push (seqObj "list" vs.toArray 0)).get? s1.heap.objs.size = some (seqObj "list" vs.toArray 0) := Heap.get?_push_size _ rfl
  -- the tuples stand while the list is sorted
  have er : PySem.W.EachIs (fun v (b : Addr × List Int) => ∃ as, Reads (PySem.W.sortingHeap (s1.heap.push (seqObj "list" vs.toArray 0)) s1.heap.objs.size vs) v (encT b) as) vs L1 := by
    rw [e1]
    refine each_of L1 fun q hq => ?_
    have tq := R.tup q (hs1 q hq)
    refine reads_isT (P := P) (w := w) (isT_keep tq fun b u e => ?_)
    have hlt := Heap.lt_size (k1 b u e)
    exact PySem.W.sortingHeap_old (Nat.ne_of_lt hlt) (Heap.get?_push_of_some _ (k1 b u e))
  have ep : PySem.W.EachIs (fun v (b : Addr × List Int) => v = Value.ref b.1) vs L1 := by
    rw [e1]
    exact each_of L1 fun q hq => rfl
  have hal : PySem.W.AllAlike (L1.map encT) := fun d hd d' hd' => by
    obtain ⟨q, _, rfl⟩ := List.mem_map.mp hd
    obtain ⟨r, _, rfl⟩ := List.mem_map.mp hd'
    simp only [encT, PySem.W.alike]
    exact alike_ints _ _
  have hk : PySem.W.Sortable (L1.map encT) := .inl fun d hd => by
    obtain ⟨q, hq, rfl⟩ := List.mem_map.mp hd
    have := hne q (hs1 q hq)
    cases h2 : q.2 with
    | nil => exact absurd h2 this
    | cons x r => exact ⟨.int x, r.map .int, by simp [encT, h2]⟩
  have hdep : ∀ d, d ∈ L1.map encT → A.in1.in1.units + d.depth < cLine := fun d hd => by
    obtain ⟨q, hq, rfl⟩ := List.mem_map.mp hd
    have e : (encT q).depth = 1 := by simp only [encT, PyData.depth, depth_ints]
    rw [e]
    show A.units + 1 + 1 + 1 < cLine
    omega
  have S := PySem.W.SortsAt.data (prog := P) (w := w) (A := A.in1.in1) (s := { s1 with heap := PySem.W.sortingHeap (s1.heap.push (seqObj "list" vs.toArray 0)) s1.heap.objs.size vs }) (PySem.W.each_map (R := fun v d => ∃ as, Reads (PySem.W.sortingHeap (s1.heap.push (seqObj "list" vs.toArray 0)) s1.heap.objs.size vs) v d as) encT er) hal hk hdep
  have so := PySem.W.sortVals_data (R := fun v (b : Addr × List Int) => v = Value.ref b.1) false ep er hal
  refine wpAny_bind (wpAny_holding (dm_call_sort (s := { s1 with heap := s1.heap.push (seqObj "list" vs.toArray 0) }) hoL S (by rw [sizeLine_eq]; omega) ?_))
  obtain ⟨c, hc⟩ := sortedHeap_at (vs := vs) (out := (PySem.W.sortVals (PySem.W.dataKind (PySem.W.sortingHeap (s1.heap.push (seqObj "list" vs.toArray 0)) s1.heap.objs.size vs) (L1.map encT)) false vs vs).toArray) hoL
  refine wpAny_pure ⟨_, rfl, hQ _ s1.heap.objs.size _ c L1 (fun b u e => ?_) g1 o1 hz hc pL (by rw [List.toList_toArray]; exact map_of_each so)⟩
  have q := k1 b u e
  have hlt := Heap.lt_size q
  show (sortedHeap (s1.heap.push (seqObj "list" vs.toArray 0)) s1.heap.objs.size vs _).get? b = some u
  rw [sortedHeap_old (Nat.ne_of_lt hlt) (by rw [size_push']; exact Nat.lt_succ_of_lt hlt)]
  exact Heap.get?_push_of_some _ q
end
end L2
end

section
set_option Elab.async false
set_option linter.all false
set_option autoImplicit true
set_option maxRecDepth 100000
set_option maxHeartbeats 1000000
/-! DSetT2: the rule for sorted(set(xs)), xs a list of ints or of tuples of ints. -/
namespace Dm
open PySem PySem.Spec PyProof.Rows L2
theorem toks_ints : ∀ {k l : List Int}, PySem.W.keyToksAll (k.map PyData.int) = PySem.W.keyToksAll (l.map PyData.int) → k = l
  | [], [], _ => rfl
  | [], _ :: _, h => by simp [PySem.W.keyToksAll] at h
  | _ :: _, [], h => by simp [PySem.W.keyToksAll] at h
  | a :: k, b :: l, h => by
    simp only [List.map_cons, PySem.W.keyToksAll, PySem.W.keyToks, List.cons.injEq, List.cons_append, List.nil_append, Sum.inl.injEq] at h
    rw [h.2.1, toks_ints h.2.2]
theorem leB_anti {k l : List Int} (h1 : leB (tupD' k) (tupD' l) = true) (h2 : leB (tupD' l) (tupD' k) = true) : tupD' k = tupD' l := by
  unfold leB PySem.W.dataLt at h1 h2
  have := PyProof.Rows.lex_total (O := PyProof.Rows.itemOrd) _ _ (by simpa using h2) (by simpa using h1)
  simp only [tupD', PySem.W.keyToks] at this
  rw [toks_ints this]
theorem leB_total : PySem.W.TotalLe leB := PySem.W.sortLe_total (PyProof.Rows.listOrd PyProof.Rows.itemOrd) false fun d : D => PySem.W.keyToks d
theorem sort_perm {xs ys : List (List Int)} (h : xs.Perm ys) : (xs.map tupD').mergeSort leB = (ys.map tupD').mergeSort leB := by
  have p : ((xs.map tupD').mergeSort leB).Perm ((ys.map tupD').mergeSort leB) := (List.mergeSort_perm _ _).trans ((h.map tupD').trans (List.mergeSort_perm _ _).symm)
  refine List.Perm.eq_of_pairwise (le := fun a b => leB a b = true) (fun a b ha hb h1 h2 => ?_) (List.pairwise_mergeSort leB_total.trans (fun a b => by rw [Bool.or_eq_true]; exact leB_total.total a b) _) (List.pairwise_mergeSort leB_total.trans (fun a b => by rw [Bool.or_eq_true]; exact leB_total.total a b) _) p
  obtain ⟨k, _, rfl⟩ := List.mem_map.mp ((List.mergeSort_perm _ _).mem_iff.mp ha)
  obtain ⟨l, _, rfl⟩ := List.mem_map.mp ((List.mergeSort_perm _ _).mem_iff.mp hb)
  exact leB_anti h1 h2
theorem mem_dedupT (a : List Int) : ∀ xs : List (List Int), a ∈ dedupT xs ↔ a ∈ xs
  | [] => Iff.rfl
  | x :: xs => by
    unfold dedupT
    split
    · rename_i h
      rw [mem_dedupT a xs]
      exact ⟨List.mem_cons_of_mem _, fun q => (List.mem_cons.mp q).elim (fun z => z ▸ h) id⟩
    · rw [List.mem_cons, List.mem_cons, mem_dedupT a xs]
theorem nodup_dedupT : ∀ xs : List (List Int), (dedupT xs).Nodup
  | [] => List.nodup_nil
  | x :: xs => by
    unfold dedupT
    split
    · exact nodup_dedupT xs
    · rename_i h
      exact List.nodup_cons.mpr ⟨fun q => h ((mem_dedupT x xs).mp q), nodup_dedupT xs⟩
theorem rp_ints {K : PySem.W.Frag} {H : Hp} : ∀ {vs : List V} {ds : List D} {ns : List Int}, RpAll K H vs ds → intsOf ds = some ns → vs = ns.map V.int
  | _, [], ns, h, e => by
    cases h
    cases e
    rfl
  | _, .int i :: ds, ns, h, e => by
    cases h with
    | cons h1 h2 =>
      cases h1
      rw [intsOf] at e
      obtain ⟨ms, e1, rfl⟩ := Option.map_eq_some_iff.mp e
      rw [rp_ints h2 e1]
      rfl
  | _, .none :: _, ns, h, e => by simp [intsOf] at e
  | _, .bool _ :: _, ns, h, e => by simp [intsOf] at e
  | _, .str _ :: _, ns, h, e => by simp [intsOf] at e
  | _, .list _ :: _, ns, h, e => by simp [intsOf] at e
  | _, .tuple _ :: _, ns, h, e => by simp [intsOf] at e
  | _, .dict _ :: _, ns, h, e => by simp [intsOf] at e
theorem intsOf_eq : ∀ {ds : List D} {ns : List Int}, intsOf ds = some ns → ds = ns.map .int
  | [], ns, e => by
    cases e
    rfl
  | .int i :: ds, ns, e => by
    rw [intsOf] at e
    obtain ⟨ms, e1, rfl⟩ := Option.map_eq_some_iff.mp e
    rw [intsOf_eq e1]
    rfl
  | .none :: _, ns, e => by simp [intsOf] at e
  | .bool _ :: _, ns, e => by simp [intsOf] at e
  | .str _ :: _, ns, e => by simp [intsOf] at e
  | .list _ :: _, ns, e => by simp [intsOf] at e
  | .tuple _ :: _, ns, e => by simp [intsOf] at e
  | .dict _ :: _, ns, e => by simp [intsOf] at e
/-- the addresses of tuples of ints -/
theorem rp_tups {K : PySem.W.Frag} {H : Hp} : ∀ {vs : List V} {ds : List D} {ns : List (List Int)}, RpAll K H vs ds → tupsOf ds = some ns → ∃ ks : List (Addr × List Int), vs = ks.map (fun p => V.ref p.1) ∧ ns = ks.map (·.2) ∧ ∀ p ∈ ks, H p.1 = some (.tup (p.2.map V.int))
  | _, [], ns, h, e => by
    cases h
    cases e
    exact ⟨[], rfl, rfl, fun p hp => by cases hp⟩
  | _, .tuple xs :: ds, ns, h, e => by
    cases h with
    | cons h1 h2 =>
      simp only [tupsOf, Option.bind_eq_bind, Option.bind_eq_some_iff] at e
      obtain ⟨a, e1, b, e2, e3⟩ := e
      cases e3
      obtain ⟨ks, rfl, rfl, q⟩ := rp_tups h2 e2
      cases h1 with
      | tup hH rr =>
        rename_i ad us
        have := rp_ints rr e1
        subst this
        exact ⟨(ad, a) :: ks, rfl, rfl, fun p hp => by
          rcases List.mem_cons.mp hp with z | z
          · rw [z]; exact hH
          · exact q p z⟩
  | _, .none :: _, ns, h, e => by simp [tupsOf] at e
  | _, .bool _ :: _, ns, h, e => by simp [tupsOf] at e
  | _, .str _ :: _, ns, h, e => by simp [tupsOf] at e
  | _, .list _ :: _, ns, h, e => by simp [tupsOf] at e
  | _, .int _ :: _, ns, h, e => by simp [tupsOf] at e
  | _, .dict _ :: _, ns, h, e => by simp [tupsOf] at e
theorem sortSetTD_some {d r : D} (h : sortSetTD d = some r) : ∃ ds ns, d = .list ds ∧ tupsOf ds = some ns ∧ ns.length < 64 ∧ (∀ n ∈ ns, n ≠ []) ∧ r = .list (((dedupT ns).map tupD').mergeSort leB) := by
  cases d with
  | list xs =>
    simp only [sortSetTD] at h
    cases hns : tupsOf xs with
    | none => rw [hns] at h; cases h
    | some ns =>
      rw [hns] at h
      simp only [] at h
      split at h
      · rename_i hb
        cases h
        simp only [Bool.and_eq_true, decide_eq_true_eq, List.all_eq_true, Bool.not_eq_true'] at hb
        refine ⟨xs, ns, rfl, hns, hb.1, fun n hn z => ?_, rfl⟩
        have := hb.2 n hn
        rw [z] at this
        cases this
      · cases h
  | _ => cases h
section
variable {X : Cx} {T : List Addr} {a : Expr} {f : E} {pos p p2 q2 : Pos}
theorem f_sortSetT (hu : X.A.units + 64 < cLine) (hm : X.mg "sorted" = none) (hm2 : X.mg "set" = none) (ha : DB X T a f) (hc : X.calm = true := by rfl) (hg : Gl X "sorted" := by rfl) (hg2 : Gl X "set" := by rfl) (na : starEach [a] X.env = (false, eval a X.env) :: starEach [] X.env := by rfl) :
    DF X T (.Call (.Name "sorted" p) [.Call (.Name "set" p2) [a] [] q2] [] pos) (unE sortSetTD f) := by
  refine ⟨⟨fun pins s σ H Q I ⟨S, r, d, o, ef, k⟩ => ?_⟩⟩
  obtain ⟨x0, e1, e2⟩ := unE_some ef
  obtain ⟨ds, ns, rfl, hns, h64, hne, rfl⟩ := sortSetTD_some e2
  refine Call_ (ld_blt I hg hm (show bootBuiltins "sorted" = some (.builtin "sorted") by decide +kernel) ?_)
  refine PyProof.Rows.callWith_builtin1 (PyProof.Rows.args_cons ?_ rfl) rfl rfl
  refine Call_ (ld_blt I hg2 hm2 (show bootBuiltins "set" = some (.type "set") by decide +kernel) ?_)
  refine PyProof.Rows.callWith_type1 (PyProof.Rows.args_cons (thn (ha.pe.run pins s σ H (fun v H' => Nxt T H H' ∧ RpB X.K S H' v (.list ds)) I ⟨S, r, _, o, e1, fun v H' n rv => ⟨n, rv⟩⟩) fun v s1 ⟨x, H1, I1, r1, n1, rx⟩ => PyProof.Rows.args_nil ?_) na) na rfl
  obtain ⟨l, ys, rfl, hl, rr⟩ := rx.list
  cases r1
  obtain ⟨ks, rfl, rfl, hk⟩ := rp_tups rr hns
  obtain ⟨its, rv, pl, hz⟩ := I1.list hl
  have hk1 : ∀ p ∈ ks, H1 p.1 = some (.tup (p.2.map V.int)) := fun p hp => (mns_some (hk p hp)).1
  refine call_set_tups (P := X.prog) (w := X.w) ks (I1.ok.hd hc) pl.isList (by simpa using refs_of_vals rv) (fun p hp => I1.isT (SqT.of (hk1 p hp))) (by simpa using h64) (by omega) fun h' tk L es ep t R g kk => ?_
  refine PyProof.Rows.args_nil ?_
  have I2 : Inv X pins σ H1 { s1 with heap := h', toks := tk } := I1.kept kk
  have sub : ∀ p ∈ L, p ∈ ks := fun p hp => List.mem_of_mem_take (g.sub p hp)
  have all : ∀ p ∈ ks, p.2 ∈ L.map (·.2) := fun p hp => g.all p (by rw [List.take_length]; exact hp)
  refine sorted_setTD R (I2.ok.hd hc) (by omega) (fun p hp => hne _ (List.mem_map_of_mem (sub p hp))) fun s' p out c L1 hk2 hg2' ho2 hp ho pL hout => ?_
  have hnone : H1 p = none := I2.hok.fresh hp
  have hL' : ∀ q ∈ L1.mergeSort (PySem.W.dataLe false encT), q ∈ ks := fun q hq => sub q (pL.mem_iff.mp ((List.mergeSort_perm _ _).mem_iff.mp hq))
  have rr2 : RpAll X.K (mns S H1) ((L1.mergeSort (PySem.W.dataLe false encT)).map fun q => V.ref q.1) ((L1.mergeSort (PySem.W.dataLe false encT)).map encT) := by
    have : ∀ zs : List (Addr × List Int), (∀ q ∈ zs, q ∈ ks) → RpAll X.K (mns S H1) (zs.map fun q => V.ref q.1) (zs.map encT) := by
      intro zs
      induction zs with
      | nil => intro _; exact .nil
      | cons z zs ih =>
        intro hz
        exact .cons (.tup (hk z (hz z List.mem_cons_self)) (RpAll.ints z.2)) (ih fun q hq => hz q (List.mem_cons_of_mem _ hq))
    exact this _ hL'
  have ed : (L1.mergeSort (PySem.W.dataLe false encT)).map encT = ((dedupT (ks.map (·.2))).map tupD').mergeSort leB := by
    rw [List.map_mergeSort (r := PySem.W.dataLe false encT) (s := leB) (fun a _ b _ => by rw [PySem.W.dataLe_eq]; rfl)]
    have e3 : L1.map encT = (L1.map (·.2)).map tupD' := by
      rw [List.map_map]
      rfl
    rw [e3]
    refine sort_perm ((pL.map (·.2)).trans ((List.perm_ext_iff_of_nodup R.nd (nodup_dedupT _)).mpr fun n => ?_))
    rw [mem_dedupT]
    constructor
    · intro hn
      obtain ⟨q, hq, rfl⟩ := List.mem_map.mp hn
      exact List.mem_map_of_mem (sub q hq)
    · intro hn
      obtain ⟨q, hq, rfl⟩ := List.mem_map.mp hn
      exact all q hq
  rw [ed] at rr2
  obtain ⟨n3, o3⟩ := own_newlst (K := X.K) (S := S) n1.tabs (o.live.ext n1.ext) hnone rr2
  refine ⟨.ref p, _, inv_newL (us := out.toList) (n := c) I2 hk2 hg2' ho2 hp ?_ (by rw [hout]; exact vals_of_refs _) (by rw [Array.toArray_toList]; exact ho), rfl, k p _ (n1.free hnone) (n1.trans n3) o3⟩
  rw [List.length_map, List.length_mergeSort, pL.length_eq, sizeLine_eq]
  have := R.few
  omega
theorem f_sortSetA (hu : X.A.units + 64 < cLine) (hm : X.mg "sorted" = none) (hm2 : X.mg "set" = none) (ha : DB X T a f) (hc : X.calm = true := by rfl) (hg : Gl X "sorted" := by rfl) (hg2 : Gl X "set" := by rfl) (na : starEach [a] X.env = (false, eval a X.env) :: starEach [] X.env := by rfl) :
    DF X T (.Call (.Name "sorted" p) [.Call (.Name "set" p2) [a] [] q2] [] pos) (unE sortSetA f) := by
  have h1 := f_sortSet (pos := pos) (p := p) (p2 := p2) (q2 := q2) hm hm2 ha hc hg hg2 na
  have h2 := f_sortSetT (pos := pos) (p := p) (p2 := p2) (q2 := q2) hu hm hm2 ha hc hg hg2 na
  refine ⟨⟨fun pins s σ H Q I ⟨S, r, d, o, ef, k⟩ => ?_⟩⟩
  obtain ⟨x0, e1, e2⟩ := unE_some ef
  unfold sortSetA at e2
  split at e2
  · rename_i y hy
    cases e2
    exact h1.pe.run pins s σ H Q I ⟨S, r, d, o, by rw [unE]; simp [e1, hy], k⟩
  · exact h2.pe.run pins s σ H Q I ⟨S, r, d, o, by rw [unE]; simp [e1, e2], k⟩
end
end Dm
end

section
set_option autoImplicit false
set_option linter.all false
namespace Dm
open PySem
def B_steps_from : S :=
  (blk [(sAsg (.nm 2) (lstI (compI [4, 5] (seqI (vE 0)) (.tp [(.nm 4), (.nm 5)]) (trT (opE eqD (vE 4) (vE 1))) (vE 5)))), (sAsg (.nm 3) (lstI (compI [4, 5] (seqI (vE 0)) (.tp [(.nm 4), (.nm 5)]) (trT (opE eqD (vE 5) (opE subD (kE (.int 0)) (vE 1)))) (opE subD (kE (.int 0)) (vE 4))))), (sRet (unE sortSetA (opE addD (vE 2) (vE 3))))])
def F_steps_from : List D → Option D := dDef 2 6 B_steps_from
def B_walk_between : S :=
  (blk [(sOwn 3 (disp1E (vE 1) (tupE [(vE 1)]))), (sOwn 4 (lstE [(vE 1)])), (sWh (trT (bE 4)) (blk [(sPop0 (.nm 5) 4), (sFor (seqI (callE F_steps_from [(vE 0), (vE 5)])) (.nm 6) (blk [(sIf (trT (opE ninD (vE 6) (bE 3))) (blk [(sPut 3 (vE 6) (opE addD (opE ixD (bE 3) (vE 5)) (tupE [(vE 6)]))), (sApp 4 (vE 6))]) (blk []))]))])), (sRet (get1E (bE 3) (vE 2)))])
def F_walk_between : List D → Option D := dDef 3 7 B_walk_between
def B_is_walk : S :=
  (blk [(sIf (orT (trT (opE eqD (unE lenD (vE 2)) (kE (.int 0)))) (notT (trT (allE [3] (seqI (vE 2)) (.nm 3) noT (chE leD leD (kE (.int 1)) (unE absD (vE 3)) (vE 0)))))) (blk [(sRet (kE (.bool false)))]) (blk [])), (sRet (allE [4] (rgI (kE (.int 0)) (opE subD (unE lenD (vE 2)) (kE (.int 1)))) (.nm 4) noT (opE inD (opE ixD (vE 2) (opE addD (vE 4) (kE (.int 1)))) (callE F_steps_from [(vE 1), (opE ixD (vE 2) (vE 4))]))))])
def F_is_walk : List D → Option D := dDef 3 5 B_is_walk
def B_holds_in : S :=
  (blk [(sRet (opE eqD (opE ixD (vE 0) (opE subD (unE absD (vE 1)) (kE (.int 1)))) (ifE (trT (opE gtD (vE 1) (kE (.int 0)))) (kE (.int 1)) (kE (.int 0)))))])
def F_holds_in : List D → Option D := dDef 2 2 B_holds_in
def B_obeys : S :=
  (blk [(sRet (orE (callE F_holds_in [(vE 0), (opE ixD (vE 1) (kE (.int 1)))]) (notE (callE F_holds_in [(vE 0), (opE ixD (vE 1) (kE (.int 0)))]))))])
def F_obeys : List D → Option D := dDef 2 2 B_obeys
def B_are_switches : S :=
  (blk [(sIf (orT (trT (opE neD (unE lenD (vE 2)) (vE 0))) (notT (trT (allE [3] (seqI (vE 2)) (.nm 3) noT (opE inD (vE 3) (tupE [(kE (.int 0)), (kE (.int 1))])))))) (blk [(sRet (kE (.bool false)))]) (blk [])), (sRet (allE [4] (seqI (vE 1)) (.nm 4) noT (callE F_obeys [(vE 2), (vE 4)])))])
def F_are_switches : List D → Option D := dDef 3 5 B_are_switches
def B_all_switches : S :=
  (blk [(sAsg (.nm 1) (lstE [(tupE [])])), (sFor (rgI (kE (.int 0)) (vE 0)) (.nm 2) (blk [(sAsg (.nm 1) (lstI (comp2I [3, 4] (seqI (vE 1)) (.nm 3) noT [4] (seqI (tupE [(kE (.int 0)), (kE (.int 1))])) (.nm 4) noT (opE addD (vE 3) (tupE [(vE 4)])))))])), (sRet (vE 1))])
def F_all_switches : List D → Option D := dDef 1 5 B_all_switches
def B_told_switches : S :=
  (blk [(sFor (seqI (callE F_all_switches [(vE 0)])) (.nm 2) (blk [(sIf (trT (callE F_are_switches [(vE 0), (vE 1), (vE 2)])) (blk [(sRet (vE 2))]) (blk []))])), (sRet (kE .none))])
def F_told_switches : List D → Option D := dDef 2 3 B_told_switches
def B_tangle_of : S :=
  (blk [(sFor (rgI (kE (.int 1)) (opE addD (vE 0) (kE (.int 1)))) (.nm 2) (blk [(sAsg (.nm 3) (callE F_walk_between [(vE 1), (vE 2), (opE subD (kE (.int 0)) (vE 2))])), (sAsg (.nm 4) (callE F_walk_between [(vE 1), (opE subD (kE (.int 0)) (vE 2)), (vE 2)])), (sIf (andT (trT (unE notND (vE 3))) (trT (unE notND (vE 4)))) (blk [(sRet (opE addD (vE 3) (cutE (vE 4) (some (kE (.int 1))) none)))]) (blk []))])), (sRet (kE .none))])
def F_tangle_of : List D → Option D := dDef 2 5 B_tangle_of
def B_is_tangle : S :=
  (blk [(sRet (andE (callE F_is_walk [(vE 0), (vE 1), (vE 2)]) (andE (opE eqD (opE ixD (vE 2) (kE (.int 0))) (opE ixD (vE 2) (unE negD (kE (.int 1))))) (opE inD (opE subD (kE (.int 0)) (opE ixD (vE 2) (kE (.int 0)))) (vE 2)))))])
def F_is_tangle : List D → Option D := dDef 3 3 B_is_tangle
def B_ends_for : S :=
  (blk [(sAsg (.tp [(.nm 1), (.nm 2)]) (vE 0)), (sRet (tupE [(tupE [(vE 1), (vE 2)]), (tupE [(vE 1), (opE subD (kE (.int 0)) (vE 1))]), (tupE [(opE subD (kE (.int 0)) (vE 2)), (vE 2)])]))])
def F_ends_for : List D → Option D := dDef 1 3 B_ends_for
def B_reason_for : S :=
  (blk [(sFor (seqI (callE F_ends_for [(vE 2)])) (.tp [(.nm 3), (.nm 4)]) (blk [(sAsg (.nm 5) (callE F_walk_between [(vE 1), (vE 3), (vE 4)])), (sIf (trT (unE notND (vE 5))) (blk [(sRet (vE 5))]) (blk []))])), (sRet (callE F_tangle_of [(vE 0), (vE 1)]))])
def F_reason_for : List D → Option D := dDef 3 6 B_reason_for
def B_does_follow : S :=
  (blk [(sRet (unE notND (callE F_reason_for [(vE 0), (vE 1), (vE 2)])))])
def F_does_follow : List D → Option D := dDef 3 3 B_does_follow
def B_is_reason : S :=
  (blk [(sIf (notT (trT (callE F_is_walk [(vE 0), (vE 1), (vE 3)]))) (blk [(sRet (kE (.bool false)))]) (blk [])), (sRet (orE (opE inD (tupE [(opE ixD (vE 3) (kE (.int 0))), (opE ixD (vE 3) (unE negD (kE (.int 1))))]) (callE F_ends_for [(vE 2)])) (callE F_is_tangle [(vE 0), (vE 1), (vE 3)])))])
def F_is_reason : List D → Option D := dDef 4 4 B_is_reason
def B_without : S :=
  (blk [(sRet (tupI (seqI (lstI (compI [2] (seqI (vE 0)) (.nm 2) (trT (opE neD (vE 2) (vE 1))) (vE 2))))))])
def F_without : List D → Option D := dDef 2 3 B_without
def B_spare_rules : S :=
  (blk [(sRet (tupI (seqI (lstI (compI [2] (seqI (vE 1)) (.nm 2) (trT (callE F_does_follow [(vE 0), (callE F_without [(vE 1), (vE 2)]), (vE 2)])) (vE 2))))))])
def F_spare_rules : List D → Option D := dDef 2 3 B_spare_rules
def B_reached_from : S :=
  (blk [(sOwn 3 (dcompE [7] (seqI (vE 2)) (.nm 7) noT (vE 7) (kE (.bool true)))), (sFor (rgI (kE (.int 0)) (vE 0)) (.nm 4) (blk [(sFor (seqI (vE 1)) (.tp [(.nm 5), (.nm 6)]) (blk [(sIf (trT (opE inD (vE 5) (bE 3))) (blk [(sPut 3 (vE 6) (kE (.bool true)))]) (blk []))]))])), (sRet (bE 3))])
def F_reached_from : List D → Option D := dDef 3 8 B_reached_from
def B_alive_cells : S :=
  (blk [(sRet (tupI (seqI (unE sortKD (callE F_reached_from [(vE 0), (vE 1), (vE 2)])))))])
def F_alive_cells : List D → Option D := dDef 3 3 B_alive_cells
def B_all_sets : S :=
  (blk [(sAsg (.nm 1) (lstE [(tupE [])])), (sFor (rgI (kE (.int 0)) (vE 0)) (.nm 2) (blk [(sAsg (.nm 1) (opE addD (vE 1) (lstI (compI [3] (seqI (vE 1)) (.nm 3) noT (opE addD (vE 3) (tupE [(vE 2)]))))))])), (sRet (unE sortLD (vE 1)))])
def F_all_sets : List D → Option D := dDef 1 4 B_all_sets
def B_are_met : S :=
  (blk [(sRet (allE [2, 3] (seqI (vE 0)) (.tp [(.nm 2), (.nm 3)]) noT (opE inD (opE ixD (vE 1) (vE 2)) (vE 3))))])
def F_are_met : List D → Option D := dDef 2 4 B_are_met
def B_is_choice : S :=
  (blk [(sIf (trT (opE neD (unE lenD (vE 2)) (unE lenD (vE 0)))) (blk [(sRet (kE (.bool false)))]) (blk [])), (sIf (notT (trT (allE [3, 4] (zipI (vE 2) (vE 0)) (.tp [(.nm 3), (.nm 4)]) noT (chE leD ltD (unE negD (kE (.int 1))) (vE 3) (unE lenD (vE 4)))))) (blk [(sRet (kE (.bool false)))]) (blk [])), (sIf (notT (trT (callE F_are_met [(vE 1), (vE 2)]))) (blk [(sRet (kE (.bool false)))]) (blk [])), (sRet (allE [3, 4] (zipI (vE 2) (vE 0)) (.tp [(.nm 3), (.nm 4)]) noT (orE (opE eqD (vE 3) (unE negD (kE (.int 1)))) (callE F_are_met [(opE ixD (vE 4) (vE 3)), (vE 2)]))))])
def F_is_choice : List D → Option D := dDef 3 5 B_is_choice
def B_choices_from (rec : List D → Option D) : S :=
  (blk [(sIf (trT (opE eqD (unE lenD (vE 2)) (unE lenD (vE 0)))) (blk [(sRet (ifE (trT (callE F_is_choice [(vE 0), (vE 1), (vE 2)])) (lstE [(vE 2)]) (lstE [])))]) (blk [])), (sOwn 3 (lstE [])), (sFor (rgDownI (opE subD (unE lenD (opE ixD (vE 0) (unE lenD (vE 2)))) (kE (.int 1))) (unE negD (kE (.int 2)))) (.nm 4) (blk [(sExt 3 (seqI (callE rec [(vE 0), (vE 1), (opE addD (vE 2) (tupE [(vE 4)]))])))])), (sRet (bE 3))])
def R_choices_from : Nat → List D → Option D
  | 0 => fun _ => none
  | n + 1 => dDef 3 5 (B_choices_from (R_choices_from n))
def F_choices_from : List D → Option D := R_choices_from 30
def B_told_choice : S :=
  (blk [(sAsg (.nm 2) (callE F_choices_from [(vE 0), (vE 1), (tupE [])])), (sRet (ifE (trT (vE 2)) (opE ixD (vE 2) (kE (.int 0))) (kE .none)))])
def F_told_choice : List D → Option D := dDef 2 3 B_told_choice
def B_number_of_choices : S :=
  (blk [(sRet (unE lenD (callE F_choices_from [(vE 0), (vE 1), (tupE [])])))])
def F_number_of_choices : List D → Option D := dDef 2 2 B_number_of_choices
def B_has_choice : S :=
  (blk [(sRet (unE notND (callE F_told_choice [(vE 0), (tupI (seqI (lstI (compI [3] (seqI (vE 2)) (.nm 3) noT (opE ixD (vE 1) (vE 3))))))])))])
def F_has_choice : List D → Option D := dDef 3 4 B_has_choice
def B_told_quarrel : S :=
  (blk [(sFor (seqI (callE F_all_sets [(unE lenD (vE 1))])) (.nm 2) (blk [(sAsg (.nm 3) (lstI (compI [4] (seqI (vE 2)) (.nm 4) noT (tupI (seqI (lstI (compI [5] (seqI (vE 2)) (.nm 5) (trT (opE neD (vE 5) (vE 4))) (vE 5)))))))), (sIf (andT (notT (trT (callE F_has_choice [(vE 0), (vE 1), (vE 2)]))) (trT (allE [6] (seqI (vE 3)) (.nm 6) noT (callE F_has_choice [(vE 0), (vE 1), (vE 6)])))) (blk [(sRet (vE 2))]) (blk []))])), (sRet (kE .none))])
def F_told_quarrel : List D → Option D := dDef 2 7 B_told_quarrel
def B__law_cell : S :=
  (blk [(sIf (trT (opE ltD (vE 1) (unE lenD (vE 0)))) (blk [(sRet (opE ixD (vE 0) (vE 1)))]) (blk [])), (sRet (opE addD (opE mulI (kE (.int 5)) (vE 1)) (kE (.int 3))))])
def F__law_cell : List D → Option D := dDef 2 2 B__law_cell
def B__law_draws : S :=
  (blk [(sAsg (.nm 2) (unE absD (unE intD (vE 0)))), (sAsg (.nm 3) (opE geD (vE 2) (opE powD (kE (.int 10)) (kE (.int 18))))), (sAsg (.nm 4) (vE 2)), (sOwn 5 (lstE [])), (sFor (rgI (kE (.int 0)) (vE 1)) (.nm 6) (blk [(sIf (andT (trT (vE 3)) (trT (opE gtD (vE 2) (kE (.int 0))))) (blk [(sApp 5 (opE modD (unE intD (vE 2)) (kE (.int 5040)))), (sAsg (.nm 2) (opE fdivD (vE 2) (kE (.int 5040))))]) (blk [(sAsg (.nm 7) (opE modD (unE intD (opE addD (opE addD (opE mulI (vE 4) (kE (.int 48271))) (opE mulI (opE addD (vE 6) (kE (.int 1))) (kE (.int 69621)))) (kE (.int 11)))) (kE (.int 2147483647)))), (sAsg (.nm 7) (opE modD (unE intD (opE addD (opE mulI (vE 7) (vE 7)) (opE mulI (kE (.int 40692)) (opE addD (vE 6) (kE (.int 3)))))) (kE (.int 2147483399)))), (sApp 5 (opE modD (unE intD (opE fdivD (vE 7) (kE (.int 64)))) (kE (.int 5040))))]))])), (sRet (bE 5))])
def F__law_draws : List D → Option D := dDef 2 8 B__law_draws
def B__law_is_integer : S :=
  (blk [(sRet (andE (unE (isiD .int) (vE 0)) (notE (unE (isiD .bool) (vE 0)))))])
def F__law_is_integer : List D → Option D := dDef 1 1 B__law_is_integer
def B__law_is (rec : List D → Option D) : S :=
  (blk [(sIf (trT (unE isND (vE 1))) (blk [(sRet (unE isND (vE 0)))]) (blk [])), (sIf (trT (unE (isiD .bool) (vE 1))) (blk [(sRet (andE (unE (isiD .bool) (vE 0)) (opE eqD (vE 0) (vE 1))))]) (blk [])), (sIf (trT (unE (isiD .int) (vE 1))) (blk [(sRet (andE (callE F__law_is_integer [(vE 0)]) (opE eqD (vE 0) (vE 1))))]) (blk [])), (sIf (trT (unE (isiD .str) (vE 1))) (blk [(sRet (andE (unE (isiD .str) (vE 0)) (opE eqD (vE 0) (vE 1))))]) (blk [])), (sIf (orT (notT (trT (unE (isiD .tup) (vE 0)))) (trT (opE neD (unE lenD (vE 0)) (unE lenD (vE 1))))) (blk [(sRet (kE (.bool false)))]) (blk [])), (sRet (unE allLD (lstI (compI [2] (rgI (kE (.int 0)) (unE lenD (vE 1))) (.nm 2) noT (callE rec [(opE ixD (vE 0) (vE 2)), (opE ixD (vE 1) (vE 2))])))))])
def R__law_is : Nat → List D → Option D
  | 0 => fun _ => none
  | n + 1 => dDef 2 3 (B__law_is (R__law_is n))
def F__law_is : List D → Option D := R__law_is 30
def B__law_is_integers : S :=
  (blk [(sRet (andE (unE (isiD .tup) (vE 0)) (unE allLD (lstI (compI [1] (seqI (vE 0)) (.nm 1) noT (callE F__law_is_integer [(vE 1)]))))))])
def F__law_is_integers : List D → Option D := dDef 1 2 B__law_is_integers
def B__law_place : S :=
  (blk [(sRet (ifE (trT (opE gtD (vE 1) (kE (.int 0)))) (opE subD (vE 1) (kE (.int 1))) (opE subD (opE subD (vE 0) (vE 1)) (kE (.int 1)))))])
def F__law_place : List D → Option D := dDef 2 2 B__law_place
def B__law_signs : S :=
  (blk [(sRet (opE addD (lstI (compI [1] (rgI (kE (.int 0)) (vE 0)) (.nm 1) noT (opE addD (vE 1) (kE (.int 1))))) (lstI (compI [1] (rgI (kE (.int 0)) (vE 0)) (.nm 1) noT (opE subD (opE subD (kE (.int 0)) (vE 1)) (kE (.int 1)))))))])
def F__law_signs : List D → Option D := dDef 1 2 B__law_signs
def B__law_leads : S :=
  (blk [(sRet (unE sortSetA (opE addD (lstI (compI [1, 2] (seqI (vE 0)) (.tp [(.nm 1), (.nm 2)]) noT (tupE [(vE 1), (vE 2)]))) (lstI (compI [1, 2] (seqI (vE 0)) (.tp [(.nm 1), (.nm 2)]) noT (tupE [(opE subD (kE (.int 0)) (vE 2)), (opE subD (kE (.int 0)) (vE 1))]))))))])
def F__law_leads : List D → Option D := dDef 1 3 B__law_leads
def B__law_reach : S :=
  (blk [(sAsg (.nm 3) (lstE [(vE 2)])), (sFor (rgI (kE (.int 0)) (opE mulI (kE (.int 2)) (vE 0))) (.nm 4) (blk [(sAsg (.nm 3) (opE addD (vE 3) (unE sortSetA (lstI (compI [5, 6] (seqI (callE F__law_leads [(vE 1)])) (.tp [(.nm 5), (.nm 6)]) (andT (trT (opE inD (vE 5) (vE 3))) (trT (opE ninD (vE 6) (vE 3)))) (vE 6))))))])), (sRet (vE 3))])
def F__law_reach : List D → Option D := dDef 3 7 B__law_reach
def B__law_alive : S :=
  (blk [(sAsg (.nm 3) (tupI (seqI (unE sortLD (lstI (compI [6, 7] (seqI (callE F__law_leads [(vE 1)])) (.tp [(.nm 6), (.nm 7)]) noT (tupE [(callE F__law_place [(vE 0), (vE 6)]), (callE F__law_place [(vE 0), (vE 7)])]))))))), (sAsg (.nm 4) (unE sortLD (lstI (compI [8] (seqI (callE F__law_reach [(vE 0), (vE 1), (vE 2)])) (.nm 8) noT (callE F__law_place [(vE 0), (vE 8)]))))), (sAsg (.nm 5) (callE F_alive_cells [(opE mulI (kE (.int 2)) (vE 0)), (vE 3), (tupE [(callE F__law_place [(vE 0), (vE 2)])])])), (sIf (notT (trT (callE F__law_is [(vE 5), (tupI (seqI (vE 4)))]))) (blk [(sRet (kE .none))]) (blk [])), (sRet (lstI (compI [8] (seqI (callE F__law_signs [(vE 0)])) (.nm 8) (trT (opE inD (callE F__law_place [(vE 0), (vE 8)]) (vE 5))) (vE 8))))])
def F__law_alive : List D → Option D := dDef 3 9 B__law_alive
def B__law_has : S :=
  (blk [(sRet (opE eqD (opE ixD (vE 0) (opE subD (unE absD (vE 1)) (kE (.int 1)))) (ifE (trT (opE gtD (vE 1) (kE (.int 0)))) (kE (.int 1)) (kE (.int 0)))))])
def F__law_has : List D → Option D := dDef 2 2 B__law_has
def B__law_every : S :=
  (blk [(sAsg (.nm 2) (lstE [(tupE [])])), (sFor (rgI (kE (.int 0)) (vE 0)) (.nm 3) (blk [(sAsg (.nm 4) (lstE [])), (sFor (seqI (vE 2)) (.nm 5) (blk [(sAsg (.nm 4) (opE addD (vE 4) (lstE [(opE addD (vE 5) (tupE [(kE (.int 0))])), (opE addD (vE 5) (tupE [(kE (.int 1))]))])))])), (sAsg (.nm 2) (vE 4))])), (sRet (lstI (compI [5] (seqI (vE 2)) (.nm 5) (trT (unE allLD (lstI (compI [6, 7] (seqI (vE 1)) (.tp [(.nm 6), (.nm 7)]) noT (orE (notE (callE F__law_has [(vE 5), (vE 6)])) (callE F__law_has [(vE 5), (vE 7)])))))) (vE 5))))])
def F__law_every : List D → Option D := dDef 2 8 B__law_every
def B__law_version : S :=
  (blk [(sRet (ifE (trT (opE gtD (vE 0) (kE (.int 0)))) (kE (.int 0)) (kE (.int 1))))])
def F__law_version : List D → Option D := dDef 1 1 B__law_version
def B__law_parcels : S :=
  (blk [(sAsg (.nm 2) (tupE [])), (sFor (rgI (kE (.int 0)) (vE 0)) (.nm 3) (blk [(sAsg (.nm 4) (tupE [])), (sFor (seqI (tupE [(opE addD (vE 3) (kE (.int 1))), (opE subD (opE subD (kE (.int 0)) (vE 3)) (kE (.int 1)))])) (.nm 5) (blk [(sAsg (.nm 6) (tupE [])), (sFor (rgI (kE (.int 0)) (vE 0)) (.nm 7) (blk [(sAsg (.nm 8) (lstI (compI [9, 10] (seqI (callE F__law_leads [(vE 1)])) (.tp [(.nm 9), (.nm 10)]) (andT (trT (opE eqD (vE 9) (vE 5))) (andT (trT (opE eqD (unE absD (vE 10)) (opE addD (vE 7) (kE (.int 1))))) (trT (opE neD (vE 7) (vE 3))))) (callE F__law_version [(vE 10)])))), (sIf (trT (opE gtD (unE lenD (vE 8)) (kE (.int 0)))) (blk [(sAsg (.nm 6) (opE addD (vE 6) (tupE [(tupE [(vE 7), (ifE (trT (opE eqD (unE lenSetD (vE 8)) (kE (.int 1)))) (tupE [(opE ixD (vE 8) (kE (.int 0)))]) (tupE [(kE (.int 5))]))])])))]) (blk []))])), (sAsg (.nm 4) (opE addD (vE 4) (tupE [(vE 6)])))])), (sAsg (.nm 2) (opE addD (vE 2) (tupE [(vE 4)])))])), (sRet (vE 2))])
def F__law_parcels : List D → Option D := dDef 2 11 B__law_parcels
def B__law_wishes : S :=
  (blk [(sAsg (.nm 3) (tupE [])), (sFor (rgI (kE (.int 0)) (vE 0)) (.nm 4) (blk [(sOwn 5 (lstE [])), (sFor (seqI (tupE [(opE addD (vE 4) (kE (.int 1))), (opE subD (opE subD (kE (.int 0)) (vE 4)) (kE (.int 1)))])) (.nm 6) (blk [(sIf (andT (trT (opE ninD (tupE [(vE 6), (opE subD (kE (.int 0)) (vE 6))]) (callE F__law_leads [(vE 1)]))) (trT (opE ninD (opE subD (kE (.int 0)) (vE 6)) (vE 2)))) (blk [(sApp 5 (callE F__law_version [(vE 6)]))]) (blk []))])), (sAsg (.nm 3) (opE addD (vE 3) (tupE [(tupE [(vE 4), (ifE (trT (opE gtD (unE lenD (bE 5)) (kE (.int 0)))) (tupI (seqI (bE 5))) (tupE [(kE (.int 5))]))])])))])), (sRet (vE 3))])
def F__law_wishes : List D → Option D := dDef 3 7 B__law_wishes
def B__law_walk : S :=
  (blk [(sAsg (.nm 2) (callE F__law_leads [(vE 0)])), (sRet (andE (callE F__law_is_integers [(vE 1)]) (andE (opE gtD (unE lenD (vE 1)) (kE (.int 0))) (unE allLD (lstI (compI [3] (rgI (kE (.int 0)) (opE subD (unE lenD (vE 1)) (kE (.int 1)))) (.nm 3) noT (opE inD (tupE [(opE ixD (vE 1) (vE 3)), (opE ixD (vE 1) (opE addD (vE 3) (kE (.int 1))))]) (vE 2))))))))])
def F__law_walk : List D → Option D := dDef 2 4 B__law_walk
def B__law_tangled : S :=
  (blk [(sRet (andE (callE F__law_walk [(vE 1), (vE 2)]) (andE (opE leD (unE absD (opE ixD (vE 2) (kE (.int 0)))) (vE 0)) (andE (opE eqD (opE ixD (vE 2) (kE (.int 0))) (opE ixD (vE 2) (unE negD (kE (.int 1))))) (opE inD (opE subD (kE (.int 0)) (opE ixD (vE 2) (kE (.int 0)))) (vE 2))))))])
def F__law_tangled : List D → Option D := dDef 3 3 B__law_tangled
def B__law_reasoned : S :=
  (blk [(sAsg (.tp [(.nm 5), (.nm 6)]) (vE 2)), (sAsg (.nm 7) (unE allLD (lstI (compI [14] (seqI (vE 3)) (.nm 14) noT (orE (notE (callE F__law_has [(vE 14), (vE 5)])) (callE F__law_has [(vE 14), (vE 6)])))))), (sAsg (.nm 8) (callE F__law_alive [(vE 0), (vE 1), (vE 5)])), (sAsg (.nm 9) (callE F__law_alive [(vE 0), (vE 1), (opE subD (kE (.int 0)) (vE 6))])), (sIf (orT (trT (unE isND (vE 8))) (trT (unE isND (vE 9)))) (blk [(sRet (kE (.bool false)))]) (blk [])), (sIf (trT (opE neD (orE (opE inD (vE 6) (vE 8)) (orE (opE inD (opE subD (kE (.int 0)) (vE 5)) (vE 8)) (orE (opE inD (vE 6) (vE 9)) (vE 4)))) (vE 7))) (blk [(sRet (kE (.bool false)))]) (blk [])), (sAsg (.nm 10) (callE F_reason_for [(vE 0), (vE 1), (vE 2)])), (sIf (orT (notT (trT (callE F__law_is [(callE F_does_follow [(vE 0), (vE 1), (vE 2)]), (vE 7)]))) (trT (opE eqD (unE isND (vE 10)) (vE 7)))) (blk [(sRet (kE (.bool false)))]) (blk [])), (sIf (trT (unE notND (vE 10))) (blk [(sIf (orT (notT (trT (callE F__law_walk [(vE 1), (vE 10)]))) (notT (trT (unE allLD (lstI (compI [15] (seqI (vE 10)) (.nm 15) noT (chE leD leD (kE (.int 1)) (unE absD (vE 15)) (vE 0)))))))) (blk [(sRet (kE (.bool false)))]) (blk [])), (sAsg (.nm 11) (tupE [(opE ixD (vE 10) (kE (.int 0))), (opE ixD (vE 10) (unE negD (kE (.int 1))))])), (sIf (andT (trT (opE ninD (vE 11) (tupE [(tupE [(vE 5), (vE 6)]), (tupE [(vE 5), (opE subD (kE (.int 0)) (vE 5))]), (tupE [(opE subD (kE (.int 0)) (vE 6)), (vE 6)])]))) (notT (trT (callE F__law_tangled [(vE 0), (vE 1), (vE 10)])))) (blk [(sRet (kE (.bool false)))]) (blk [])), (sIf (notT (trT (callE F__law_is [(callE F_is_reason [(vE 0), (vE 1), (vE 2), (vE 10)]), (kE (.bool true))]))) (blk [(sRet (kE (.bool false)))]) (blk []))]) (blk [])), (sAsg (.nm 12) (callE F_told_choice [(callE F__law_parcels [(vE 0), (vE 1)]), (callE F__law_wishes [(vE 0), (vE 1), (tupE [(vE 5), (opE subD (kE (.int 0)) (vE 6))])])])), (sAsg (.nm 13) (lstI (compI [14] (seqI (vE 3)) (.nm 14) (andT (trT (callE F__law_has [(vE 14), (vE 5)])) (notT (trT (callE F__law_has [(vE 14), (vE 6)])))) (vE 14)))), (sRet (callE F__law_is [(vE 12), (ifE (trT (opE gtD (unE lenD (vE 13)) (kE (.int 0)))) (tupI (seqI (lstI (compI [16] (seqI (opE ixD (vE 13) (kE (.int 0)))) (.nm 16) noT (opE subD (kE (.int 1)) (vE 16)))))) (kE .none))]))])
def F__law_reasoned : List D → Option D := dDef 5 17 B__law_reasoned
def B__law_stuck : S :=
  (blk [(sAsg (.nm 2) (kE (.bool false))), (sFor (seqI (callE F__law_signs [(vE 0)])) (.nm 3) (blk [(sAsg (.nm 4) (callE F__law_alive [(vE 0), (vE 1), (vE 3)])), (sAsg (.nm 5) (callE F__law_alive [(vE 0), (vE 1), (opE subD (kE (.int 0)) (vE 3))])), (sIf (orT (trT (unE isND (vE 4))) (trT (unE isND (vE 5)))) (blk [(sRet (kE .none))]) (blk [])), (sAsg (.nm 2) (orE (vE 2) (andE (opE inD (opE subD (kE (.int 0)) (vE 3)) (vE 4)) (opE inD (vE 3) (vE 5)))))])), (sRet (vE 2))])
def F__law_stuck : List D → Option D := dDef 2 6 B__law_stuck
def B__law_asked : S :=
  (blk [(sAsg (.nm 3) (callE F__law_every [(vE 0), (vE 1)])), (sAsg (.nm 4) (callE F__law_parcels [(vE 0), (vE 1)])), (sAsg (.nm 5) (callE F__law_wishes [(vE 0), (vE 1), (tupE [])])), (sAsg (.nm 6) (callE F__law_stuck [(vE 0), (vE 1)])), (sIf (orT (trT (unE isND (vE 6))) (trT (opE neD (vE 6) (opE eqD (unE lenD (vE 3)) (kE (.int 0)))))) (blk [(sRet (kE (.bool false)))]) (blk [])), (sIf (orT (notT (trT (callE F__law_is [(callE F_told_switches [(vE 0), (vE 1)]), (ifE (trT (opE gtD (unE lenD (vE 3)) (kE (.int 0)))) (opE ixD (vE 3) (kE (.int 0))) (kE .none))]))) (notT (trT (callE F__law_is [(callE F_number_of_choices [(vE 4), (vE 5)]), (unE lenD (vE 3))])))) (blk [(sRet (kE (.bool false)))]) (blk [])), (sIf (notT (trT (callE F__law_is [(callE F_told_choice [(vE 4), (vE 5)]), (ifE (trT (opE gtD (unE lenD (vE 3)) (kE (.int 0)))) (tupI (seqI (lstI (compI [17] (seqI (opE ixD (vE 3) (kE (.int 0)))) (.nm 17) noT (opE subD (kE (.int 1)) (vE 17)))))) (kE .none))]))) (blk [(sRet (kE (.bool false)))]) (blk [])), (sAsg (.nm 7) (callE F_tangle_of [(vE 0), (vE 1)])), (sAsg (.nm 8) (callE F_told_quarrel [(vE 4), (vE 5)])), (sIf (orT (trT (opE eqD (unE isND (vE 7)) (vE 6))) (trT (opE eqD (unE isND (vE 8)) (vE 6)))) (blk [(sRet (kE (.bool false)))]) (blk [])), (sIf (andT (trT (vE 6)) (orT (notT (trT (callE F__law_tangled [(vE 0), (vE 1), (vE 7)]))) (orT (notT (trT (callE F__law_is [(callE F_is_tangle [(vE 0), (vE 1), (vE 7)]), (kE (.bool true))]))) (notT (trT (callE F__law_is_integers [(vE 8)])))))) (blk [(sRet (kE (.bool false)))]) (blk [])), (sFor (rgI (kE (.int 0)) (kE (.int 4))) (.nm 9) (blk [(sAsg (.nm 10) (tupI (seqI (lstI (compI [18] (rgI (kE (.int 0)) (vE 0)) (.nm 18) noT (opE modD (opE fdivD (unE intD (opE ixD (vE 2) (vE 9))) (opE ixD (tupE [(kE (.int 1)), (kE (.int 2)), (kE (.int 4)), (kE (.int 8))]) (vE 18))) (kE (.int 2)))))))), (sAsg (.nm 11) (opE inD (vE 10) (vE 3))), (sIf (orT (notT (trT (callE F__law_is [(callE F_are_switches [(vE 0), (vE 1), (vE 10)]), (vE 11)]))) (notT (trT (callE F__law_is [(callE F_is_choice [(vE 4), (vE 5), (tupI (seqI (lstI (compI [17] (seqI (vE 10)) (.nm 17) noT (opE subD (kE (.int 1)) (vE 17))))))]), (vE 11)])))) (blk [(sRet (kE (.bool false)))]) (blk [])), (sAsg (.nm 12) (callE F__law_signs [(vE 0)])), (sAsg (.nm 13) (tupE [(opE ixD (vE 12) (opE modD (unE intD (opE ixD (vE 2) (opE addD (kE (.int 4)) (vE 9)))) (opE mulI (kE (.int 2)) (vE 0)))), (opE ixD (vE 12) (opE modD (opE fdivD (unE intD (opE ixD (vE 2) (opE addD (kE (.int 4)) (vE 9)))) (kE (.int 11))) (opE mulI (kE (.int 2)) (vE 0))))])), (sIf (notT (trT (callE F__law_reasoned [(vE 0), (vE 1), (vE 13), (vE 3), (vE 6)]))) (blk [(sRet (kE (.bool false)))]) (blk []))])), (sOwn 14 (lstE [])), (sFor (seqI (vE 1)) (.nm 13) (blk [(sAsg (.nm 15) (tupI (seqI (lstI (compI [19] (seqI (vE 1)) (.nm 19) (trT (opE neD (vE 19) (vE 13))) (vE 19)))))), (sAsg (.nm 16) (callE F__law_every [(vE 0), (vE 15)])), (sIf (trT (unE allLD (lstI (compI [20] (seqI (vE 16)) (.nm 20) noT (orE (notE (callE F__law_has [(vE 20), (opE ixD (vE 13) (kE (.int 0)))])) (callE F__law_has [(vE 20), (opE ixD (vE 13) (kE (.int 1)))])))))) (blk [(sApp 14 (vE 13))]) (blk []))])), (sRet (callE F__law_is [(callE F_spare_rules [(vE 0), (vE 1)]), (tupI (seqI (bE 14)))]))])
def F__law_asked : List D → Option D := dDef 3 21 B__law_asked
def B_law : S :=
  (blk [(sAsg (.nm 1) (callE F__law_draws [(callE F__law_cell [(vE 0), (kE (.int 0))]), (kE (.int 16))])), (sIf (notT (trT (callE F__law_asked [(kE (.int 2)), (tupE [(tupE [(opE subD (kE (.int 0)) (kE (.int 2))), (opE subD (kE (.int 0)) (kE (.int 1)))]), (tupE [(opE subD (kE (.int 0)) (kE (.int 1))), (kE (.int 2))]), (tupE [(kE (.int 1)), (opE subD (kE (.int 0)) (kE (.int 1)))]), (tupE [(kE (.int 2)), (kE (.int 1))])]), (vE 1)]))) (blk [(sRet (kE (.bool false)))]) (blk [])), (sIf (notT (trT (callE F__law_asked [(kE (.int 3)), (tupE [(tupE [(opE subD (kE (.int 0)) (kE (.int 3))), (kE (.int 1))]), (tupE [(kE (.int 1)), (kE (.int 2))]), (tupE [(kE (.int 2)), (kE (.int 3))])]), (cutE (vE 1) (some (kE (.int 1))) none)]))) (blk [(sRet (kE (.bool false)))]) (blk [])), (sFor (rgI (kE (.int 0)) (kE (.int 2))) (.nm 2) (blk [(sAsg (.nm 3) (callE F__law_draws [(callE F__law_cell [(vE 0), (opE addD (kE (.int 1)) (vE 2))]), (kE (.int 7))])), (sAsg (.nm 4) (opE ixD (tupE [(kE (.int 3)), (kE (.int 4)), (kE (.int 2)), (kE (.int 1))]) (opE modD (unE intD (opE ixD (vE 1) (opE addD (kE (.int 12)) (vE 2)))) (kE (.int 4))))), (sAsg (.nm 5) (callE F__law_signs [(vE 4)])), (sOwn 6 (lstE [])), (sFor (rgI (kE (.int 0)) (opE ixD (tupE [(kE (.int 4)), (kE (.int 7)), (kE (.int 5)), (kE (.int 2)), (kE (.int 0))]) (opE modD (unE intD (opE ixD (vE 1) (opE addD (kE (.int 14)) (vE 2)))) (kE (.int 5))))) (.nm 7) (blk [(sApp 6 (tupE [(opE ixD (vE 5) (opE modD (unE intD (opE ixD (vE 3) (vE 7))) (opE mulI (kE (.int 2)) (vE 4)))), (opE ixD (vE 5) (opE modD (opE fdivD (unE intD (opE ixD (vE 3) (vE 7))) (kE (.int 11))) (opE mulI (kE (.int 2)) (vE 4))))]))])), (sIf (notT (trT (callE F__law_asked [(vE 4), (tupI (seqI (unE sortSetA (bE 6)))), (cutE (vE 1) (some (opE addD (vE 2) (kE (.int 2)))) none)]))) (blk [(sRet (kE (.bool false)))]) (blk []))])), (sRet (kE (.bool true)))])
def F_law : List D → Option D := dDef 1 8 B_law
end Dm
end

section
set_option Elab.async false
set_option linter.all false
set_option maxRecDepth 100000
set_option maxHeartbeats 4000000
namespace Rwd
open PySem PySem.Spec PyProof.Rows L2
def topS (i : Nat) : Stmt := PySem.Challenge.pw_runwarden_k94_whole_rules_as_parcels.main.body.getD i (.Pass ⟨0, 0, 0, 0⟩)
abbrev s_steps_from : Stmt := topS 1
abbrev s_walk_between : Stmt := topS 2
abbrev s_is_walk : Stmt := topS 3
abbrev s_holds_in : Stmt := topS 4
abbrev s_obeys : Stmt := topS 5
abbrev s_are_switches : Stmt := topS 6
abbrev s_all_switches : Stmt := topS 7
abbrev s_told_switches : Stmt := topS 8
abbrev s_tangle_of : Stmt := topS 9
abbrev s_is_tangle : Stmt := topS 10
abbrev s_ends_for : Stmt := topS 12
abbrev s_reason_for : Stmt := topS 13
abbrev s_does_follow : Stmt := topS 14
abbrev s_is_reason : Stmt := topS 15
abbrev s_without : Stmt := topS 16
abbrev s_spare_rules : Stmt := topS 17
abbrev s_reached_from : Stmt := topS 19
abbrev s_alive_cells : Stmt := topS 20
abbrev s_all_sets : Stmt := topS 22
abbrev s_are_met : Stmt := topS 24
abbrev s_is_choice : Stmt := topS 25
abbrev s_choices_from : Stmt := topS 26
abbrev s_told_choice : Stmt := topS 27
abbrev s_number_of_choices : Stmt := topS 28
abbrev s_has_choice : Stmt := topS 29
abbrev s_told_quarrel : Stmt := topS 30
abbrev s__law_cell : Stmt := topS 32
abbrev s__law_draws : Stmt := topS 33
abbrev s__law_is_integer : Stmt := topS 34
abbrev s__law_is : Stmt := topS 35
abbrev s__law_is_integers : Stmt := topS 36
abbrev s__law_place : Stmt := topS 37
abbrev s__law_signs : Stmt := topS 38
abbrev s__law_leads : Stmt := topS 39
abbrev s__law_reach : Stmt := topS 40
abbrev s__law_alive : Stmt := topS 41
abbrev s__law_every : Stmt := topS 42
abbrev s__law_has : Stmt := topS 43
abbrev s__law_version : Stmt := topS 44
abbrev s__law_parcels : Stmt := topS 45
abbrev s__law_wishes : Stmt := topS 46
abbrev s__law_walk : Stmt := topS 47
abbrev s__law_tangled : Stmt := topS 48
abbrev s__law_reasoned : Stmt := topS 49
abbrev s__law_stuck : Stmt := topS 50
abbrev s__law_asked : Stmt := topS 51
abbrev s_law : Stmt := topS 52
def dD (x : Str) (st : Stmt) : He.DefD := ⟨(x, none), x, x, defArgs st, defBody st, defScope st, [], []⟩
def fn0 : List He.DefD := [dD "steps_from" s_steps_from, dD "walk_between" s_walk_between, dD "is_walk" s_is_walk, dD "holds_in" s_holds_in, dD "obeys" s_obeys, dD "are_switches" s_are_switches, dD "all_switches" s_all_switches, dD "told_switches" s_told_switches, dD "tangle_of" s_tangle_of, dD "is_tangle" s_is_tangle, dD "ends_for" s_ends_for, dD "reason_for" s_reason_for, dD "does_follow" s_does_follow, dD "is_reason" s_is_reason, dD "without" s_without, dD "spare_rules" s_spare_rules, dD "reached_from" s_reached_from, dD "alive_cells" s_alive_cells, dD "all_sets" s_all_sets, dD "are_met" s_are_met, dD "is_choice" s_is_choice, dD "choices_from" s_choices_from, dD "told_choice" s_told_choice, dD "number_of_choices" s_number_of_choices, dD "has_choice" s_has_choice, dD "told_quarrel" s_told_quarrel, dD "_law_cell" s__law_cell, dD "_law_draws" s__law_draws, dD "_law_is_integer" s__law_is_integer, dD "_law_is" s__law_is]
def fn1 : List He.DefD := [dD "_law_is_integers" s__law_is_integers, dD "_law_place" s__law_place, dD "_law_signs" s__law_signs, dD "_law_leads" s__law_leads, dD "_law_reach" s__law_reach, dD "_law_alive" s__law_alive, dD "_law_every" s__law_every, dD "_law_has" s__law_has, dD "_law_version" s__law_version, dD "_law_parcels" s__law_parcels, dD "_law_wishes" s__law_wishes, dD "_law_walk" s__law_walk, dD "_law_tangled" s__law_tangled, dD "_law_reasoned" s__law_reasoned, dD "_law_stuck" s__law_stuck, dD "_law_asked" s__law_asked, dD "law" s_law]
def fn : List He.DefD := fn0 ++ fn1
def fa0 : List He.Fa := [.glo "steps_from", .glo "walk_between", .glo "is_walk", .glo "holds_in", .glo "obeys", .glo "are_switches", .glo "all_switches", .glo "told_switches", .glo "tangle_of", .glo "is_tangle", .glo "ends_for", .glo "reason_for", .glo "does_follow", .glo "is_reason", .glo "without", .glo "spare_rules", .glo "reached_from", .glo "alive_cells", .glo "all_sets", .glo "are_met", .glo "is_choice", .glo "choices_from", .glo "told_choice", .glo "number_of_choices", .glo "has_choice", .glo "told_quarrel", .glo "_law_cell", .glo "_law_draws", .glo "_law_is_integer", .glo "_law_is"]
def fa1 : List He.Fa := [.glo "_law_is_integers", .glo "_law_place", .glo "_law_signs", .glo "_law_leads", .glo "_law_reach", .glo "_law_alive", .glo "_law_every", .glo "_law_has", .glo "_law_version", .glo "_law_parcels", .glo "_law_wishes", .glo "_law_walk", .glo "_law_tangled", .glo "_law_reasoned", .glo "_law_stuck", .glo "_law_asked", .glo "law", .free "abs", .free "all", .free "bool", .free "int", .free "isinstance", .free "len", .free "range", .free "set", .free "sorted", .free "str", .free "tuple", .free "zip"]
def fa : List He.Fa := fa0 ++ fa1
def tf : List He.Defn := [("is_walk", none), ("are_switches", none), ("are_met", none), ("is_choice", none), ("told_quarrel", none)]
abbrev R : PySem.W.OpenRow := PySem.W.OpenLaw.row PySem.Challenge.rw_runwarden_k94_whole_rules_as_parcels
abbrev hk : PySem.W.Hook := He.hookX 4 fa fn [] tf (fun _ => true)
def ob (s : PySem.W.SharedT) : He.AlX := He.obsX 4 fa fn [] tf (fun _ => true) (HandSHeadRun.getT s)
theorem ob_eq (s : PySem.W.SharedT) : ob s = hk.obs s.abs := He.obsX_eq (HandSHeadRun.getT_eq s)
def loose0 : List PySem.Str := ["steps_from", "walk_between", "is_walk", "holds_in", "obeys", "are_switches", "all_switches", "told_switches", "tangle_of", "is_tangle", "ends_for", "reason_for", "does_follow", "is_reason", "without", "spare_rules", "reached_from", "alive_cells", "all_sets", "are_met", "is_choice", "choices_from", "told_choice", "number_of_choices", "has_choice", "told_quarrel", "_law_cell", "_law_draws", "_law_is_integer", "_law_is"]
def loose1 : List PySem.Str := ["_law_is_integers", "_law_place", "_law_signs", "_law_leads", "_law_reach", "_law_alive", "_law_every", "_law_has", "_law_version", "_law_parcels", "_law_wishes", "_law_walk", "_law_tangled", "_law_reasoned", "_law_stuck", "_law_asked"]
def loose : List PySem.Str := loose0 ++ loose1
theorem run (w : World) : HandSHeadRun.RunEq R (PySem.W.view R.prog [52]) hk ob 3000 loose w := by
  intro os
  kernel_rfl
open Dm
theorem u1 {k : Nat} {A : Around} (hr : Room k A) : A.units + 1 < cLine := by have := hr.un; omega
theorem u64 {k : Nat} {A : Around} (hr : Room k A) : A.units + 64 < cLine := by have := hr.un; omega
theorem u100 {k : Nat} {A : Around} (hr : Room k A) : A.units + 100 < cLine := by have := hr.un; omega
structure Bi (mg : Str → Option Value) : Prop where
  abs_ : mg "abs" = none
  all_ : mg "all" = none
  bool_ : mg "bool" = none
  int_ : mg "int" = none
  isinstance_ : mg "isinstance" = none
  len_ : mg "len" = none
  range_ : mg "range" = none
  set_ : mg "set" = none
  sorted_ : mg "sorted" = none
  str_ : mg "str" = none
  tuple_ : mg "tuple" = none
  zip_ : mg "zip" = none
section
variable {P : Program} {w : World} {K : PySem.W.Frag} {mg : Str → Option Value} {base : Heap} {T : List Addr}
theorem sc_steps_from : FnScope ["rules", "sign", "ahead", "back", "first", "then"] ["rules", "sign"] (defScope s_steps_from) := fnScope_by (by decide +kernel)
theorem ok_steps_from (B : Bi mg) {fa : Addr} {fd : FuncData} (Fn : FunD K "steps_from" "steps_from" (defArgs s_steps_from) (defBody s_steps_from) (defScope s_steps_from) [] [] fa fd) (hm : mg "steps_from" = some (.ref fa)) : DefOk P w K mg base T "steps_from" 1 2 F_steps_from := by
  have hNd : (["rules", "sign", "ahead", "back", "first", "then"] : List Str).Nodup := by decide
  exact def_ok (k := 0) Fn hm sc_steps_from (by decide) (FunD.bindsN (ps := ["rules", "sign"]) Fn fun _ _ _ _ _ _ us hl => match us, hl with | [_, _], _ => rfl) fun A outer s H E hr =>
    (ss_cons (s_setLc 2 rfl hNd (i_seq (q_e (e_var 0))) (blkOk_by (own := [("first", 4), ("then", 5)]) (by kernel_rfl)) (fun s H C cl fp => (g_tp (gs_cons (g_nm 4 hNd) (gs_cons (g_nm 5 hNd) gs_nil)))) (fun s H C cl fp => (ts_one (t_cmp (c_eq (u64 hr)) b_eq (e_toB (e_var 4)) (e_toB (e_var 1)) (nomark _)))) (fun s H C cl fp => (e_var 5)))
    (ss_cons (s_setLc 3 rfl hNd (i_seq (q_e (e_var 0))) (blkOk_by (own := [("first", 4), ("then", 5)]) (by kernel_rfl)) (fun s H C cl fp => (g_tp (gs_cons (g_nm 4 hNd) (gs_cons (g_nm 5 hNd) gs_nil)))) (fun s H C cl fp => (ts_one (t_cmp (c_eq (u64 hr)) b_eq (e_toB (e_var 5)) (e_toB (e_op o_sub (e_toB e_int) (e_toB (e_var 1)))) (nomark _)))) (fun s H C cl fp => (e_op o_sub (e_toB e_int) (e_toB (e_var 4)))))
    (ss_cons (s_ret (e_new (f_sortSetA (u64 hr) B.sorted_ B.set_ (e_toB (e_op o_add (e_toB (e_var 2)) (e_toB (e_var 3)))))))
    ss_nil)))
theorem sc_walk_between : FnScope ["rules", "a", "b", "walks", "queue", "sign", "after"] ["rules", "a", "b"] (defScope s_walk_between) := fnScope_by (by decide +kernel)
theorem ok_walk_between (B : Bi mg) (G_steps_from : DefOk P w K mg base T "steps_from" 1 2 F_steps_from) {fa : Addr} {fd : FuncData} (Fn : FunD K "walk_between" "walk_between" (defArgs s_walk_between) (defBody s_walk_between) (defScope s_walk_between) [] [] fa fd) (hm : mg "walk_between" = some (.ref fa)) : DefOk P w K mg base T "walk_between" 2 3 F_walk_between := by
  have hNd : (["rules", "a", "b", "walks", "queue", "sign", "after"] : List Str).Nodup := by decide
  exact def_ok (k := 1) Fn hm sc_walk_between (by decide) (FunD.bindsN (ps := ["rules", "a", "b"]) Fn fun _ _ _ _ _ _ us hl => match us, hl with | [_, _, _], _ => rfl) fun A outer s H E hr =>
    (ss_cons (s_own 3 (f_disp1 (e_var 1) (e_tup (a_cons (e_var 1) a_nil))) hNd)
    (ss_cons (s_own 4 (f_lst (a_cons (e_var 1) a_nil)) hNd)
    (ss_cons (s_wh PassesOwn.never (t_tru (e_own 4)) (ss_cons (s_pop0 4 (g_nm 5 hNd))
    (ss_cons (s_for PassesOwn.never rfl (i_seq (q_e (e_call G_steps_from hr (a_cons (e_var 0) (a_cons (e_var 5) a_nil)) (by decide)))) (g_nm 6 hNd) (ss_cons (s_if (t_cmp (c_nin (u100 hr)) b_nin (e_toB (e_var 6)) (e_own 3) (by rfl)) (ss_cons (s_put 3 (u1 hr) (e_var 6) (e_op o_add (e_toB (e_ix (u1 hr) (e_own 3) (e_var 5))) (e_toB (e_tup (a_cons (e_var 6) a_nil)))))
    (ss_cons (s_app 4 (e_var 6))
    ss_nil)) ss_nil)
    ss_nil))
    ss_nil)))
    (ss_cons (s_ret (e_get1 (u1 hr) (e_own 3) (e_var 2)))
    ss_nil))))
theorem sc_is_walk : FnScope ["n", "rules", "signs", "sign", "at"] ["n", "rules", "signs"] (defScope s_is_walk) := fnScope_by (by decide +kernel)
theorem ok_is_walk (B : Bi mg) (G_steps_from : DefOk P w K mg base T "steps_from" 1 2 F_steps_from) {fa : Addr} {fd : FuncData} (Fn : FunD K "is_walk" "is_walk" (defArgs s_is_walk) (defBody s_is_walk) (defScope s_is_walk) [] [] fa fd) (hm : mg "is_walk" = some (.ref fa)) {c P0 : Addr} (hPT : P0 ∈ T) (TB : LamX.TabB base mg c P0) (hcd : fd.code = .ref c) : DefOk P w K mg base T "is_walk" 3 3 F_is_walk := by
  have hNd : (["n", "rules", "signs", "sign", "at"] : List Str).Nodup := by decide
  exact def_ok (k := 2) Fn hm sc_is_walk (by decide) (FunD.bindsN (ps := ["n", "rules", "signs"]) Fn fun _ _ _ _ _ _ us hl => match us, hl with | [_, _, _], _ => rfl) fun A outer s H E hr =>
    (ss_cons (s_if (t_bool (t_or (t_cmp (c_eq (u64 hr)) b_eq (e_toB (e_len B.len_ (e_toB (e_var 2)))) (e_toB e_int) (nomark _)) (t_or1 (t_not (t_tru (e_toB (e_all hr B.all_ hPT TB hcd (genSc_by (by decide +kernel)) rfl hNd (i_seq (q_e (e_var 2))) (blkOk_by (own := [("sign", 3)]) (by kernel_rfl)) (fun s H cl C code fp a go => (g_nm 3 hNd)) (fun s H cl C code fp a go => ts_nil) (fun s H cl C code fp a go => (fun hr => (e_ch (c_le (u64 hr)) (c_le (u64 hr)) b_le b_le (e_toB e_int) (e_toB (e_abs B.abs_ (e_var 3))) (e_toB (e_var 0)))) (room_gen hr))))))))) (ss_cons (s_ret e_bl)
    ss_nil) ss_nil)
    (ss_cons (s_ret (e_all hr B.all_ hPT TB hcd (genSc_by (by decide +kernel)) rfl hNd (i_range1 (q := false) B.range_ (e_op o_sub (e_toB (e_len B.len_ (e_toB (e_var 2)))) (e_toB e_int))) (blkOk_by (own := [("at", 4)]) (by kernel_rfl)) (fun s H cl C code fp a go => (g_nm 4 hNd)) (fun s H cl C code fp a go => ts_nil) (fun s H cl C code fp a go => (fun hr => (e_cmp (c_in (u100 hr)) b_in (e_toB (e_ix (u1 hr) (e_toB (e_var 2)) (e_op o_add (e_toB (e_var 4)) (e_toB e_int)))) (e_toB (e_call G_steps_from hr (a_cons (e_var 1) (a_cons (e_ix (u1 hr) (e_toB (e_var 2)) (e_var 4)) a_nil)) (by decide))) (by rfl))) (room_gen hr))))
    ss_nil))
theorem sc_holds_in : FnScope ["switches", "sign"] ["switches", "sign"] (defScope s_holds_in) := fnScope_by (by decide +kernel)
theorem ok_holds_in (B : Bi mg) {fa : Addr} {fd : FuncData} (Fn : FunD K "holds_in" "holds_in" (defArgs s_holds_in) (defBody s_holds_in) (defScope s_holds_in) [] [] fa fd) (hm : mg "holds_in" = some (.ref fa)) : DefOk P w K mg base T "holds_in" 1 2 F_holds_in := by
  have hNd : (["switches", "sign"] : List Str).Nodup := by decide
  exact def_ok (k := 0) Fn hm sc_holds_in (by decide) (FunD.bindsN (ps := ["switches", "sign"]) Fn fun _ _ _ _ _ _ us hl => match us, hl with | [_, _], _ => rfl) fun A outer s H E hr =>
    (ss_cons (s_ret (e_cmp (c_eq (u64 hr)) b_eq (e_toB (e_ix (u1 hr) (e_toB (e_var 0)) (e_op o_sub (e_toB (e_abs B.abs_ (e_var 1))) (e_toB e_int)))) (e_ifB (t_cmp (c_gt (u64 hr)) b_gt (e_toB (e_var 1)) (e_toB e_int) (nomark _)) (e_toB e_int) (e_toB e_int)) (nomark _)))
    ss_nil)
theorem sc_obeys : FnScope ["switches", "rule"] ["switches", "rule"] (defScope s_obeys) := fnScope_by (by decide +kernel)
theorem ok_obeys (B : Bi mg) (G_holds_in : DefOk P w K mg base T "holds_in" 1 2 F_holds_in) {fa : Addr} {fd : FuncData} (Fn : FunD K "obeys" "obeys" (defArgs s_obeys) (defBody s_obeys) (defScope s_obeys) [] [] fa fd) (hm : mg "obeys" = some (.ref fa)) : DefOk P w K mg base T "obeys" 2 2 F_obeys := by
  have hNd : (["switches", "rule"] : List Str).Nodup := by decide
  exact def_ok (k := 1) Fn hm sc_obeys (by decide) (FunD.bindsN (ps := ["switches", "rule"]) Fn fun _ _ _ _ _ _ us hl => match us, hl with | [_, _], _ => rfl) fun A outer s H E hr =>
    (ss_cons (s_ret (e_or (e_call G_holds_in hr (a_cons (e_var 0) (a_cons (e_ix (u1 hr) (e_toB (e_var 1)) e_int) a_nil)) (by decide)) (e_or1 (e_not (e_toB (e_call G_holds_in hr (a_cons (e_var 0) (a_cons (e_ix (u1 hr) (e_toB (e_var 1)) e_int) a_nil)) (by decide)))))))
    ss_nil)
theorem sc_are_switches : FnScope ["n", "rules", "switches", "switch", "rule"] ["n", "rules", "switches"] (defScope s_are_switches) := fnScope_by (by decide +kernel)
theorem ok_are_switches (B : Bi mg) (G_obeys : DefOk P w K mg base T "obeys" 2 2 F_obeys) {fa : Addr} {fd : FuncData} (Fn : FunD K "are_switches" "are_switches" (defArgs s_are_switches) (defBody s_are_switches) (defScope s_are_switches) [] [] fa fd) (hm : mg "are_switches" = some (.ref fa)) {c P0 : Addr} (hPT : P0 ∈ T) (TB : LamX.TabB base mg c P0) (hcd : fd.code = .ref c) : DefOk P w K mg base T "are_switches" 4 3 F_are_switches := by
  have hNd : (["n", "rules", "switches", "switch", "rule"] : List Str).Nodup := by decide
  exact def_ok (k := 3) Fn hm sc_are_switches (by decide) (FunD.bindsN (ps := ["n", "rules", "switches"]) Fn fun _ _ _ _ _ _ us hl => match us, hl with | [_, _, _], _ => rfl) fun A outer s H E hr =>
    (ss_cons (s_if (t_bool (t_or (t_cmp (c_ne (u64 hr)) b_ne (e_toB (e_len B.len_ (e_toB (e_var 2)))) (e_toB (e_var 0)) (nomark _)) (t_or1 (t_not (t_tru (e_toB (e_all hr B.all_ hPT TB hcd (genSc_by (by decide +kernel)) rfl hNd (i_seq (q_e (e_var 2))) (blkOk_by (own := [("switch", 3)]) (by kernel_rfl)) (fun s H cl C code fp a go => (g_nm 3 hNd)) (fun s H cl C code fp a go => ts_nil) (fun s H cl C code fp a go => (fun hr => (e_cmp (c_in (u100 hr)) b_in (e_toB (e_var 3)) (e_toB (e_tup (a_cons e_int (a_cons e_int a_nil)))) (by rfl))) (room_gen hr))))))))) (ss_cons (s_ret e_bl)
    ss_nil) ss_nil)
    (ss_cons (s_ret (e_all hr B.all_ hPT TB hcd (genSc_by (by decide +kernel)) rfl hNd (i_seq (q_e (e_var 1))) (blkOk_by (own := [("rule", 4)]) (by kernel_rfl)) (fun s H cl C code fp a go => (g_nm 4 hNd)) (fun s H cl C code fp a go => ts_nil) (fun s H cl C code fp a go => (fun hr => (e_call G_obeys hr (a_cons (e_var 2) (a_cons (e_var 4) a_nil)) (by decide))) (room_gen hr))))
    ss_nil))
theorem sc_all_switches : FnScope ["n", "every", "_", "one", "switch"] ["n"] (defScope s_all_switches) := fnScope_by (by decide +kernel)
theorem ok_all_switches (B : Bi mg) {fa : Addr} {fd : FuncData} (Fn : FunD K "all_switches" "all_switches" (defArgs s_all_switches) (defBody s_all_switches) (defScope s_all_switches) [] [] fa fd) (hm : mg "all_switches" = some (.ref fa)) : DefOk P w K mg base T "all_switches" 1 1 F_all_switches := by
  have hNd : (["n", "every", "_", "one", "switch"] : List Str).Nodup := by decide
  exact def_ok (k := 0) Fn hm sc_all_switches (by decide) (FunD.bindsN (ps := ["n"]) Fn fun _ _ _ _ _ _ us hl => match us, hl with | [_], _ => rfl) fun A outer s H E hr =>
    (ss_cons (s_set 1 (e_new (f_lst (a_cons (e_tup a_nil) a_nil))) hNd)
    (ss_cons (s_for PassesOwn.never rfl (i_range1 (q := false) B.range_ (e_var 0)) (g_nm 2 hNd) (ss_cons (s_setLc2 1 [4] rfl hNd (i_seq (q_e (e_var 1))) (blkOk_by (own := [("one", 3), ("switch", 4)]) (by kernel_rfl)) (fun s H C cl fp => (g_nm 3 hNd)) (fun s H C cl fp => ts_nil) (fun s H C cl fp => (i_seq (q_e (e_tup (a_cons e_int (a_cons e_int a_nil)))))) (fun s H C cl fp => (g_nm 4 hNd)) (fun s H C cl fp => ts_nil) (fun s H C cl fp => (e_op o_add (e_toB (e_var 3)) (e_toB (e_tup (a_cons (e_var 4) a_nil))))))
    ss_nil))
    (ss_cons (s_ret (e_var 1))
    ss_nil)))
theorem sc_told_switches : FnScope ["n", "rules", "switches"] ["n", "rules"] (defScope s_told_switches) := fnScope_by (by decide +kernel)
theorem ok_told_switches (B : Bi mg) (G_are_switches : DefOk P w K mg base T "are_switches" 4 3 F_are_switches) (G_all_switches : DefOk P w K mg base T "all_switches" 1 1 F_all_switches) {fa : Addr} {fd : FuncData} (Fn : FunD K "told_switches" "told_switches" (defArgs s_told_switches) (defBody s_told_switches) (defScope s_told_switches) [] [] fa fd) (hm : mg "told_switches" = some (.ref fa)) : DefOk P w K mg base T "told_switches" 5 2 F_told_switches := by
  have hNd : (["n", "rules", "switches"] : List Str).Nodup := by decide
  exact def_ok (k := 4) Fn hm sc_told_switches (by decide) (FunD.bindsN (ps := ["n", "rules"]) Fn fun _ _ _ _ _ _ us hl => match us, hl with | [_, _], _ => rfl) fun A outer s H E hr =>
    (ss_cons (s_for PassesOwn.never rfl (i_seq (q_e (e_call G_all_switches hr (a_cons (e_var 0) a_nil) (by decide)))) (g_nm 2 hNd) (ss_cons (s_if (t_tru (e_toB (e_call G_are_switches hr (a_cons (e_var 0) (a_cons (e_var 1) (a_cons (e_var 2) a_nil))) (by decide)))) (ss_cons (s_ret (e_var 2))
    ss_nil) ss_nil)
    ss_nil))
    (ss_cons (s_ret e_non)
    ss_nil))
theorem sc_tangle_of : FnScope ["n", "rules", "sign", "there", "back"] ["n", "rules"] (defScope s_tangle_of) := fnScope_by (by decide +kernel)
theorem ok_tangle_of (B : Bi mg) (G_walk_between : DefOk P w K mg base T "walk_between" 2 3 F_walk_between) {fa : Addr} {fd : FuncData} (Fn : FunD K "tangle_of" "tangle_of" (defArgs s_tangle_of) (defBody s_tangle_of) (defScope s_tangle_of) [] [] fa fd) (hm : mg "tangle_of" = some (.ref fa)) : DefOk P w K mg base T "tangle_of" 3 2 F_tangle_of := by
  have hNd : (["n", "rules", "sign", "there", "back"] : List Str).Nodup := by decide
  exact def_ok (k := 2) Fn hm sc_tangle_of (by decide) (FunD.bindsN (ps := ["n", "rules"]) Fn fun _ _ _ _ _ _ us hl => match us, hl with | [_, _], _ => rfl) fun A outer s H E hr =>
    (ss_cons (s_for PassesOwn.never rfl (i_range2 (q := false) B.range_ e_int (e_op o_add (e_toB (e_var 0)) (e_toB e_int))) (g_nm 2 hNd) (ss_cons (s_set 3 (e_call G_walk_between hr (a_cons (e_var 1) (a_cons (e_var 2) (a_cons (e_op o_sub (e_toB e_int) (e_toB (e_var 2))) a_nil))) (by decide)) hNd)
    (ss_cons (s_set 4 (e_call G_walk_between hr (a_cons (e_var 1) (a_cons (e_op o_sub (e_toB e_int) (e_toB (e_var 2))) (a_cons (e_var 2) a_nil))) (by decide)) hNd)
    (ss_cons (s_if (t_bool (t_and (t_notN (e_toB (e_var 3))) (t_and1 (t_notN (e_toB (e_var 4)))))) (ss_cons (s_ret (e_op o_add (e_toB (e_var 3)) (e_toB (e_cut (e_toB (e_var 4)) (so_some e_int) so_none))))
    ss_nil) ss_nil)
    ss_nil))))
    (ss_cons (s_ret e_non)
    ss_nil))
theorem sc_is_tangle : FnScope ["n", "rules", "signs"] ["n", "rules", "signs"] (defScope s_is_tangle) := fnScope_by (by decide +kernel)
theorem ok_is_tangle (B : Bi mg) (G_is_walk : DefOk P w K mg base T "is_walk" 3 3 F_is_walk) {fa : Addr} {fd : FuncData} (Fn : FunD K "is_tangle" "is_tangle" (defArgs s_is_tangle) (defBody s_is_tangle) (defScope s_is_tangle) [] [] fa fd) (hm : mg "is_tangle" = some (.ref fa)) : DefOk P w K mg base T "is_tangle" 4 3 F_is_tangle := by
  have hNd : (["n", "rules", "signs"] : List Str).Nodup := by decide
  exact def_ok (k := 3) Fn hm sc_is_tangle (by decide) (FunD.bindsN (ps := ["n", "rules", "signs"]) Fn fun _ _ _ _ _ _ us hl => match us, hl with | [_, _, _], _ => rfl) fun A outer s H E hr =>
    (ss_cons (s_ret (e_and (e_call G_is_walk hr (a_cons (e_var 0) (a_cons (e_var 1) (a_cons (e_var 2) a_nil))) (by decide)) (e_and (e_cmp (c_eq (u64 hr)) b_eq (e_toB (e_ix (u1 hr) (e_toB (e_var 2)) e_int)) (e_toB (e_ix (u1 hr) (e_toB (e_var 2)) (e_neg e_int))) (nomark _)) (e_and1 (e_cmp (c_in (u100 hr)) b_in (e_toB (e_op o_sub (e_toB e_int) (e_toB (e_ix (u1 hr) (e_toB (e_var 2)) e_int)))) (e_toB (e_var 2)) (by rfl))))))
    ss_nil)
theorem sc_ends_for : FnScope ["rule", "a", "b"] ["rule"] (defScope s_ends_for) := fnScope_by (by decide +kernel)
theorem ok_ends_for (B : Bi mg) {fa : Addr} {fd : FuncData} (Fn : FunD K "ends_for" "ends_for" (defArgs s_ends_for) (defBody s_ends_for) (defScope s_ends_for) [] [] fa fd) (hm : mg "ends_for" = some (.ref fa)) : DefOk P w K mg base T "ends_for" 1 1 F_ends_for := by
  have hNd : (["rule", "a", "b"] : List Str).Nodup := by decide
  exact def_ok (k := 0) Fn hm sc_ends_for (by decide) (FunD.bindsN (ps := ["rule"]) Fn fun _ _ _ _ _ _ us hl => match us, hl with | [_], _ => rfl) fun A outer s H E hr =>
    (ss_cons (s_asg (e_var 0) (g_tp (gs_cons (g_nm 1 hNd) (gs_cons (g_nm 2 hNd) gs_nil))))
    (ss_cons (s_ret (e_tup (a_cons (e_tup (a_cons (e_var 1) (a_cons (e_var 2) a_nil))) (a_cons (e_tup (a_cons (e_var 1) (a_cons (e_op o_sub (e_toB e_int) (e_toB (e_var 1))) a_nil))) (a_cons (e_tup (a_cons (e_op o_sub (e_toB e_int) (e_toB (e_var 2))) (a_cons (e_var 2) a_nil))) a_nil)))))
    ss_nil))
theorem sc_reason_for : FnScope ["n", "rules", "rule", "a", "b", "walk"] ["n", "rules", "rule"] (defScope s_reason_for) := fnScope_by (by decide +kernel)
theorem ok_reason_for (B : Bi mg) (G_walk_between : DefOk P w K mg base T "walk_between" 2 3 F_walk_between) (G_tangle_of : DefOk P w K mg base T "tangle_of" 3 2 F_tangle_of) (G_ends_for : DefOk P w K mg base T "ends_for" 1 1 F_ends_for) {fa : Addr} {fd : FuncData} (Fn : FunD K "reason_for" "reason_for" (defArgs s_reason_for) (defBody s_reason_for) (defScope s_reason_for) [] [] fa fd) (hm : mg "reason_for" = some (.ref fa)) : DefOk P w K mg base T "reason_for" 4 3 F_reason_for := by
  have hNd : (["n", "rules", "rule", "a", "b", "walk"] : List Str).Nodup := by decide
  exact def_ok (k := 3) Fn hm sc_reason_for (by decide) (FunD.bindsN (ps := ["n", "rules", "rule"]) Fn fun _ _ _ _ _ _ us hl => match us, hl with | [_, _, _], _ => rfl) fun A outer s H E hr =>
    (ss_cons (s_for PassesOwn.never rfl (i_seq (q_e (e_call G_ends_for hr (a_cons (e_var 2) a_nil) (by decide)))) (g_tp (gs_cons (g_nm 3 hNd) (gs_cons (g_nm 4 hNd) gs_nil))) (ss_cons (s_set 5 (e_call G_walk_between hr (a_cons (e_var 1) (a_cons (e_var 3) (a_cons (e_var 4) a_nil))) (by decide)) hNd)
    (ss_cons (s_if (t_notN (e_toB (e_var 5))) (ss_cons (s_ret (e_var 5))
    ss_nil) ss_nil)
    ss_nil)))
    (ss_cons (s_ret (e_call G_tangle_of hr (a_cons (e_var 0) (a_cons (e_var 1) a_nil)) (by decide)))
    ss_nil))
theorem sc_does_follow : FnScope ["n", "rules", "rule"] ["n", "rules", "rule"] (defScope s_does_follow) := fnScope_by (by decide +kernel)
theorem ok_does_follow (B : Bi mg) (G_reason_for : DefOk P w K mg base T "reason_for" 4 3 F_reason_for) {fa : Addr} {fd : FuncData} (Fn : FunD K "does_follow" "does_follow" (defArgs s_does_follow) (defBody s_does_follow) (defScope s_does_follow) [] [] fa fd) (hm : mg "does_follow" = some (.ref fa)) : DefOk P w K mg base T "does_follow" 5 3 F_does_follow := by
  have hNd : (["n", "rules", "rule"] : List Str).Nodup := by decide
  exact def_ok (k := 4) Fn hm sc_does_follow (by decide) (FunD.bindsN (ps := ["n", "rules", "rule"]) Fn fun _ _ _ _ _ _ us hl => match us, hl with | [_, _, _], _ => rfl) fun A outer s H E hr =>
    (ss_cons (s_ret (e_notN (e_toB (e_call G_reason_for hr (a_cons (e_var 0) (a_cons (e_var 1) (a_cons (e_var 2) a_nil))) (by decide)))))
    ss_nil)
theorem sc_is_reason : FnScope ["n", "rules", "rule", "signs"] ["n", "rules", "rule", "signs"] (defScope s_is_reason) := fnScope_by (by decide +kernel)
theorem ok_is_reason (B : Bi mg) (G_is_walk : DefOk P w K mg base T "is_walk" 3 3 F_is_walk) (G_is_tangle : DefOk P w K mg base T "is_tangle" 4 3 F_is_tangle) (G_ends_for : DefOk P w K mg base T "ends_for" 1 1 F_ends_for) {fa : Addr} {fd : FuncData} (Fn : FunD K "is_reason" "is_reason" (defArgs s_is_reason) (defBody s_is_reason) (defScope s_is_reason) [] [] fa fd) (hm : mg "is_reason" = some (.ref fa)) : DefOk P w K mg base T "is_reason" 5 4 F_is_reason := by
  have hNd : (["n", "rules", "rule", "signs"] : List Str).Nodup := by decide
  exact def_ok (k := 4) Fn hm sc_is_reason (by decide) (FunD.bindsN (ps := ["n", "rules", "rule", "signs"]) Fn fun _ _ _ _ _ _ us hl => match us, hl with | [_, _, _, _], _ => rfl) fun A outer s H E hr =>
    (ss_cons (s_if (t_not (t_tru (e_toB (e_call G_is_walk hr (a_cons (e_var 0) (a_cons (e_var 1) (a_cons (e_var 3) a_nil))) (by decide))))) (ss_cons (s_ret e_bl)
    ss_nil) ss_nil)
    (ss_cons (s_ret (e_or (e_cmp (c_in (u100 hr)) b_in (e_toB (e_tup (a_cons (e_ix (u1 hr) (e_toB (e_var 3)) e_int) (a_cons (e_ix (u1 hr) (e_toB (e_var 3)) (e_neg e_int)) a_nil)))) (e_toB (e_call G_ends_for hr (a_cons (e_var 2) a_nil) (by decide))) (by rfl)) (e_or1 (e_call G_is_tangle hr (a_cons (e_var 0) (a_cons (e_var 1) (a_cons (e_var 3) a_nil))) (by decide)))))
    ss_nil))
theorem sc_without : FnScope ["rules", "rule", "other"] ["rules", "rule"] (defScope s_without) := fnScope_by (by decide +kernel)
theorem ok_without (B : Bi mg) {fa : Addr} {fd : FuncData} (Fn : FunD K "without" "without" (defArgs s_without) (defBody s_without) (defScope s_without) [] [] fa fd) (hm : mg "without" = some (.ref fa)) : DefOk P w K mg base T "without" 1 2 F_without := by
  have hNd : (["rules", "rule", "other"] : List Str).Nodup := by decide
  exact def_ok (k := 0) Fn hm sc_without (by decide) (FunD.bindsN (ps := ["rules", "rule"]) Fn fun _ _ _ _ _ _ us hl => match us, hl with | [_, _], _ => rfl) fun A outer s H E hr =>
    (ss_cons (s_ret (e_tupOf B.tuple_ (e_toB (e_new (f_lc rfl hNd (i_seq (q_e (e_var 0))) (blkOk_by (own := [("other", 2)]) (by kernel_rfl)) (fun s H C cl fp => (g_nm 2 hNd)) (fun s H C cl fp => (ts_one (t_cmp (c_ne (u64 hr)) b_ne (e_toB (e_var 2)) (e_toB (e_var 1)) (nomark _)))) (fun s H C cl fp => (e_var 2)))))))
    ss_nil)
theorem sc_spare_rules : FnScope ["n", "rules", "rule"] ["n", "rules"] (defScope s_spare_rules) := fnScope_by (by decide +kernel)
theorem ok_spare_rules (B : Bi mg) (G_does_follow : DefOk P w K mg base T "does_follow" 5 3 F_does_follow) (G_without : DefOk P w K mg base T "without" 1 2 F_without) {fa : Addr} {fd : FuncData} (Fn : FunD K "spare_rules" "spare_rules" (defArgs s_spare_rules) (defBody s_spare_rules) (defScope s_spare_rules) [] [] fa fd) (hm : mg "spare_rules" = some (.ref fa)) : DefOk P w K mg base T "spare_rules" 6 2 F_spare_rules := by
  have hNd : (["n", "rules", "rule"] : List Str).Nodup := by decide
  exact def_ok (k := 5) Fn hm sc_spare_rules (by decide) (FunD.bindsN (ps := ["n", "rules"]) Fn fun _ _ _ _ _ _ us hl => match us, hl with | [_, _], _ => rfl) fun A outer s H E hr =>
    (ss_cons (s_ret (e_tupOf B.tuple_ (e_toB (e_new (f_lc rfl hNd (i_seq (q_e (e_var 1))) (blkOk_by (own := [("rule", 2)]) (by kernel_rfl)) (fun s H C cl fp => (g_nm 2 hNd)) (fun s H C cl fp => (ts_one (t_tru (e_toB (e_call G_does_follow hr (a_cons (e_var 0) (a_cons (e_call G_without hr (a_cons (e_var 1) (a_cons (e_var 2) a_nil)) (by decide)) (a_cons (e_var 2) a_nil))) (by decide)))))) (fun s H C cl fp => (e_var 2)))))))
    ss_nil)
theorem sc_reached_from : FnScope ["n", "links", "starts", "found", "_", "one", "other", "cell"] ["n", "links", "starts"] (defScope s_reached_from) := fnScope_by (by decide +kernel)
theorem ok_reached_from (B : Bi mg) {fa : Addr} {fd : FuncData} (Fn : FunD K "reached_from" "reached_from" (defArgs s_reached_from) (defBody s_reached_from) (defScope s_reached_from) [] [] fa fd) (hm : mg "reached_from" = some (.ref fa)) : DefOk P w K mg base T "reached_from" 1 3 F_reached_from := by
  have hNd : (["n", "links", "starts", "found", "_", "one", "other", "cell"] : List Str).Nodup := by decide
  exact def_ok (k := 0) Fn hm sc_reached_from (by decide) (FunD.bindsN (ps := ["n", "links", "starts"]) Fn fun _ _ _ _ _ _ us hl => match us, hl with | [_, _, _], _ => rfl) fun A outer s H E hr =>
    (ss_cons (s_ownDc 3 rfl hNd (i_seq (q_e (e_var 2))) (blkOk_by (own := [("cell", 7)]) (by kernel_rfl)) (fun s H C cl fp => (g_nm 7 hNd)) (fun s H C cl fp => ts_nil) (fun s H C cl fp => (e_var 7)) (fun s H C cl fp => e_bl))
    (ss_cons (s_for PassesOwn.never rfl (i_range1 (q := false) B.range_ (e_var 0)) (g_nm 4 hNd) (ss_cons (s_for PassesOwn.never rfl (i_seq (q_e (e_var 1))) (g_tp (gs_cons (g_nm 5 hNd) (gs_cons (g_nm 6 hNd) gs_nil))) (ss_cons (s_if (t_cmp (c_in (u100 hr)) b_in (e_toB (e_var 5)) (e_own 3) (by rfl)) (ss_cons (s_put 3 (u1 hr) (e_var 6) e_bl)
    ss_nil) ss_nil)
    ss_nil))
    ss_nil))
    (ss_cons (s_retO 3)
    ss_nil)))
theorem sc_alive_cells : FnScope ["n", "links", "roots"] ["n", "links", "roots"] (defScope s_alive_cells) := fnScope_by (by decide +kernel)
theorem ok_alive_cells (B : Bi mg) (G_reached_from : DefOk P w K mg base T "reached_from" 1 3 F_reached_from) {fa : Addr} {fd : FuncData} (Fn : FunD K "alive_cells" "alive_cells" (defArgs s_alive_cells) (defBody s_alive_cells) (defScope s_alive_cells) [] [] fa fd) (hm : mg "alive_cells" = some (.ref fa)) : DefOk P w K mg base T "alive_cells" 2 3 F_alive_cells := by
  have hNd : (["n", "links", "roots"] : List Str).Nodup := by decide
  exact def_ok (k := 1) Fn hm sc_alive_cells (by decide) (FunD.bindsN (ps := ["n", "links", "roots"]) Fn fun _ _ _ _ _ _ us hl => match us, hl with | [_, _, _], _ => rfl) fun A outer s H E hr =>
    (ss_cons (s_ret (e_tupOf B.tuple_ (e_toB (e_new (f_sortK B.sorted_ (e_toB (e_call G_reached_from hr (a_cons (e_var 0) (a_cons (e_var 1) (a_cons (e_var 2) a_nil))) (by decide))))))))
    ss_nil)
theorem sc_all_sets : FnScope ["n", "found", "number", "one"] ["n"] (defScope s_all_sets) := fnScope_by (by decide +kernel)
theorem ok_all_sets (B : Bi mg) {fa : Addr} {fd : FuncData} (Fn : FunD K "all_sets" "all_sets" (defArgs s_all_sets) (defBody s_all_sets) (defScope s_all_sets) [] [] fa fd) (hm : mg "all_sets" = some (.ref fa)) : DefOk P w K mg base T "all_sets" 1 1 F_all_sets := by
  have hNd : (["n", "found", "number", "one"] : List Str).Nodup := by decide
  exact def_ok (k := 0) Fn hm sc_all_sets (by decide) (FunD.bindsN (ps := ["n"]) Fn fun _ _ _ _ _ _ us hl => match us, hl with | [_], _ => rfl) fun A outer s H E hr =>
    (ss_cons (s_set 1 (e_new (f_lst (a_cons (e_tup a_nil) a_nil))) hNd)
    (ss_cons (s_for PassesOwn.never rfl (i_range1 (q := false) B.range_ (e_var 0)) (g_nm 2 hNd) (ss_cons (s_set 1 (e_op o_add (e_toB (e_var 1)) (e_toB (e_new (f_lc rfl hNd (i_seq (q_e (e_var 1))) (blkOk_by (own := [("one", 3)]) (by kernel_rfl)) (fun s H C cl fp => (g_nm 3 hNd)) (fun s H C cl fp => ts_nil) (fun s H C cl fp => (e_op o_add (e_toB (e_var 3)) (e_toB (e_tup (a_cons (e_var 2) a_nil))))))))) hNd)
    ss_nil))
    (ss_cons (s_ret (e_new (f_sort (u100 hr) B.sorted_ (e_toB (e_var 1)))))
    ss_nil)))
theorem sc_are_met : FnScope ["needs", "numbers", "parcel", "allowed"] ["needs", "numbers"] (defScope s_are_met) := fnScope_by (by decide +kernel)
theorem ok_are_met (B : Bi mg) {fa : Addr} {fd : FuncData} (Fn : FunD K "are_met" "are_met" (defArgs s_are_met) (defBody s_are_met) (defScope s_are_met) [] [] fa fd) (hm : mg "are_met" = some (.ref fa)) {c P0 : Addr} (hPT : P0 ∈ T) (TB : LamX.TabB base mg c P0) (hcd : fd.code = .ref c) : DefOk P w K mg base T "are_met" 2 2 F_are_met := by
  have hNd : (["needs", "numbers", "parcel", "allowed"] : List Str).Nodup := by decide
  exact def_ok (k := 1) Fn hm sc_are_met (by decide) (FunD.bindsN (ps := ["needs", "numbers"]) Fn fun _ _ _ _ _ _ us hl => match us, hl with | [_, _], _ => rfl) fun A outer s H E hr =>
    (ss_cons (s_ret (e_all hr B.all_ hPT TB hcd (genSc_by (by decide +kernel)) rfl hNd (i_seq (q_e (e_var 0))) (blkOk_by (own := [("parcel", 2), ("allowed", 3)]) (by kernel_rfl)) (fun s H cl C code fp a go => (g_tp (gs_cons (g_nm 2 hNd) (gs_cons (g_nm 3 hNd) gs_nil)))) (fun s H cl C code fp a go => ts_nil) (fun s H cl C code fp a go => (fun hr => (e_cmp (c_in (u100 hr)) b_in (e_toB (e_ix (u1 hr) (e_toB (e_var 1)) (e_var 2))) (e_toB (e_var 3)) (by rfl))) (room_gen hr))))
    ss_nil)
theorem sc_is_choice : FnScope ["parcels", "wishes", "numbers", "number", "versions"] ["parcels", "wishes", "numbers"] (defScope s_is_choice) := fnScope_by (by decide +kernel)
theorem ok_is_choice (B : Bi mg) (G_are_met : DefOk P w K mg base T "are_met" 2 2 F_are_met) {fa : Addr} {fd : FuncData} (Fn : FunD K "is_choice" "is_choice" (defArgs s_is_choice) (defBody s_is_choice) (defScope s_is_choice) [] [] fa fd) (hm : mg "is_choice" = some (.ref fa)) {c P0 : Addr} (hPT : P0 ∈ T) (TB : LamX.TabB base mg c P0) (hcd : fd.code = .ref c) : DefOk P w K mg base T "is_choice" 4 3 F_is_choice := by
  have hNd : (["parcels", "wishes", "numbers", "number", "versions"] : List Str).Nodup := by decide
  exact def_ok (k := 3) Fn hm sc_is_choice (by decide) (FunD.bindsN (ps := ["parcels", "wishes", "numbers"]) Fn fun _ _ _ _ _ _ us hl => match us, hl with | [_, _, _], _ => rfl) fun A outer s H E hr =>
    (ss_cons (s_if (t_cmp (c_ne (u64 hr)) b_ne (e_toB (e_len B.len_ (e_toB (e_var 2)))) (e_toB (e_len B.len_ (e_toB (e_var 0)))) (nomark _)) (ss_cons (s_ret e_bl)
    ss_nil) ss_nil)
    (ss_cons (s_if (t_not (t_tru (e_toB (e_all hr B.all_ hPT TB hcd (genSc_by (by decide +kernel)) rfl hNd (i_zipQ B.zip_ (qs_e (a_cons (e_var 2) (a_cons (e_var 0) a_nil)))) (blkOk_by (own := [("number", 3), ("versions", 4)]) (by kernel_rfl)) (fun s H cl C code fp a go => (g_tp (gs_cons (g_nm 3 hNd) (gs_cons (g_nm 4 hNd) gs_nil)))) (fun s H cl C code fp a go => ts_nil) (fun s H cl C code fp a go => (fun hr => (e_ch (c_le (u64 hr)) (c_lt (u64 hr)) b_le b_lt (e_toB (e_neg e_int)) (e_toB (e_var 3)) (e_toB (e_len B.len_ (e_toB (e_var 4)))))) (room_gen hr)))))) (ss_cons (s_ret e_bl)
    ss_nil) ss_nil)
    (ss_cons (s_if (t_not (t_tru (e_toB (e_call G_are_met hr (a_cons (e_var 1) (a_cons (e_var 2) a_nil)) (by decide))))) (ss_cons (s_ret e_bl)
    ss_nil) ss_nil)
    (ss_cons (s_ret (e_all hr B.all_ hPT TB hcd (genSc_by (by decide +kernel)) rfl hNd (i_zipQ B.zip_ (qs_e (a_cons (e_var 2) (a_cons (e_var 0) a_nil)))) (blkOk_by (own := [("number", 3), ("versions", 4)]) (by kernel_rfl)) (fun s H cl C code fp a go => (g_tp (gs_cons (g_nm 3 hNd) (gs_cons (g_nm 4 hNd) gs_nil)))) (fun s H cl C code fp a go => ts_nil) (fun s H cl C code fp a go => (fun hr => (e_or (e_cmp (c_eq (u64 hr)) b_eq (e_toB (e_var 3)) (e_toB (e_neg e_int)) (nomark _)) (e_or1 (e_call G_are_met hr (a_cons (e_ix (u1 hr) (e_toB (e_var 4)) (e_var 3)) (a_cons (e_var 2) a_nil)) (by decide))))) (room_gen hr))))
    ss_nil))))
theorem sc_choices_from : FnScope ["parcels", "wishes", "begun", "found", "number"] ["parcels", "wishes", "begun"] (defScope s_choices_from) := fnScope_by (by decide +kernel)
theorem okr_choices_from (B : Bi mg) (G_is_choice : DefOk P w K mg base T "is_choice" 4 3 F_is_choice) {fa : Addr} {fd : FuncData} (Fn : FunD K "choices_from" "choices_from" (defArgs s_choices_from) (defBody s_choices_from) (defScope s_choices_from) [] [] fa fd) (hm : mg "choices_from" = some (.ref fa)) : ∀ n : Nat, DefOk P w K mg base T "choices_from" (5 + 1 * n) 3 (R_choices_from n)
  | 0 => def_none (N := []) Fn hm (FunD.bindsN (ps := ["parcels", "wishes", "begun"]) Fn fun _ _ _ _ _ _ us hl => match us, hl with | [_, _, _], _ => rfl) rfl
  | n + 1 => by
    have hNd : (["parcels", "wishes", "begun", "found", "number"] : List Str).Nodup := by decide
    have G_choices_from := okr_choices_from B G_is_choice Fn hm n
    exact (def_ok (k := 5 + 1 * n + 0) Fn hm sc_choices_from (by decide) (FunD.bindsN (ps := ["parcels", "wishes", "begun"]) Fn fun _ _ _ _ _ _ us hl => match us, hl with | [_, _, _], _ => rfl) fun A outer s H E hr =>
    (ss_cons (s_if (t_cmp (c_eq (u64 hr)) b_eq (e_toB (e_len B.len_ (e_toB (e_var 2)))) (e_toB (e_len B.len_ (e_toB (e_var 0)))) (nomark _)) (ss_cons (s_ret (e_if (t_tru (e_toB (e_call G_is_choice hr (a_cons (e_var 0) (a_cons (e_var 1) (a_cons (e_var 2) a_nil))) (by omega)))) (e_new (f_lst (a_cons (e_var 2) a_nil))) (e_new (f_lst a_nil))))
    ss_nil) ss_nil)
    (ss_cons (s_own 3 (f_lst a_nil) hNd)
    (ss_cons (s_for PassesOwn.never rfl (i_rangeDown (q := false) B.range_ (e_op o_sub (e_toB (e_len B.len_ (e_toB (e_ix (u1 hr) (e_toB (e_var 0)) (e_len B.len_ (e_toB (e_var 2))))))) (e_toB e_int)) (e_neg e_int)) (g_nm 4 hNd) (ss_cons (s_ext 3 (e_call G_choices_from hr (a_cons (e_var 0) (a_cons (e_var 1) (a_cons (e_op o_add (e_toB (e_var 2)) (e_toB (e_tup (a_cons (e_var 4) a_nil)))) a_nil))) (by omega)))
    ss_nil))
    (ss_cons (s_retO 3)
    ss_nil))))).mono (by omega)
theorem ok_choices_from (B : Bi mg) (G_is_choice : DefOk P w K mg base T "is_choice" 4 3 F_is_choice) {fa : Addr} {fd : FuncData} (Fn : FunD K "choices_from" "choices_from" (defArgs s_choices_from) (defBody s_choices_from) (defScope s_choices_from) [] [] fa fd) (hm : mg "choices_from" = some (.ref fa)) : DefOk P w K mg base T "choices_from" 35 3 F_choices_from := okr_choices_from B G_is_choice Fn hm 30
theorem sc_told_choice : FnScope ["parcels", "wishes", "found"] ["parcels", "wishes"] (defScope s_told_choice) := fnScope_by (by decide +kernel)
theorem ok_told_choice (B : Bi mg) (G_choices_from : DefOk P w K mg base T "choices_from" 35 3 F_choices_from) {fa : Addr} {fd : FuncData} (Fn : FunD K "told_choice" "told_choice" (defArgs s_told_choice) (defBody s_told_choice) (defScope s_told_choice) [] [] fa fd) (hm : mg "told_choice" = some (.ref fa)) : DefOk P w K mg base T "told_choice" 36 2 F_told_choice := by
  have hNd : (["parcels", "wishes", "found"] : List Str).Nodup := by decide
  exact def_ok (k := 35) Fn hm sc_told_choice (by decide) (FunD.bindsN (ps := ["parcels", "wishes"]) Fn fun _ _ _ _ _ _ us hl => match us, hl with | [_, _], _ => rfl) fun A outer s H E hr =>
    (ss_cons (s_set 2 (e_call G_choices_from hr (a_cons (e_var 0) (a_cons (e_var 1) (a_cons (e_tup a_nil) a_nil))) (by decide)) hNd)
    (ss_cons (s_ret (e_if (t_tru (e_toB (e_var 2))) (e_ix (u1 hr) (e_toB (e_var 2)) e_int) e_non))
    ss_nil))
theorem sc_number_of_choices : FnScope ["parcels", "wishes"] ["parcels", "wishes"] (defScope s_number_of_choices) := fnScope_by (by decide +kernel)
theorem ok_number_of_choices (B : Bi mg) (G_choices_from : DefOk P w K mg base T "choices_from" 35 3 F_choices_from) {fa : Addr} {fd : FuncData} (Fn : FunD K "number_of_choices" "number_of_choices" (defArgs s_number_of_choices) (defBody s_number_of_choices) (defScope s_number_of_choices) [] [] fa fd) (hm : mg "number_of_choices" = some (.ref fa)) : DefOk P w K mg base T "number_of_choices" 36 2 F_number_of_choices := by
  have hNd : (["parcels", "wishes"] : List Str).Nodup := by decide
  exact def_ok (k := 35) Fn hm sc_number_of_choices (by decide) (FunD.bindsN (ps := ["parcels", "wishes"]) Fn fun _ _ _ _ _ _ us hl => match us, hl with | [_, _], _ => rfl) fun A outer s H E hr =>
    (ss_cons (s_ret (e_len B.len_ (e_toB (e_call G_choices_from hr (a_cons (e_var 0) (a_cons (e_var 1) (a_cons (e_tup a_nil) a_nil))) (by decide)))))
    ss_nil)
theorem sc_has_choice : FnScope ["parcels", "wishes", "places", "place"] ["parcels", "wishes", "places"] (defScope s_has_choice) := fnScope_by (by decide +kernel)
theorem ok_has_choice (B : Bi mg) (G_told_choice : DefOk P w K mg base T "told_choice" 36 2 F_told_choice) {fa : Addr} {fd : FuncData} (Fn : FunD K "has_choice" "has_choice" (defArgs s_has_choice) (defBody s_has_choice) (defScope s_has_choice) [] [] fa fd) (hm : mg "has_choice" = some (.ref fa)) : DefOk P w K mg base T "has_choice" 37 3 F_has_choice := by
  have hNd : (["parcels", "wishes", "places", "place"] : List Str).Nodup := by decide
  exact def_ok (k := 36) Fn hm sc_has_choice (by decide) (FunD.bindsN (ps := ["parcels", "wishes", "places"]) Fn fun _ _ _ _ _ _ us hl => match us, hl with | [_, _, _], _ => rfl) fun A outer s H E hr =>
    (ss_cons (s_ret (e_notN (e_toB (e_call G_told_choice hr (a_cons (e_var 0) (a_cons (e_tupOf B.tuple_ (e_toB (e_new (f_lc rfl hNd (i_seq (q_e (e_var 2))) (blkOk_by (own := [("place", 3)]) (by kernel_rfl)) (fun s H C cl fp => (g_nm 3 hNd)) (fun s H C cl fp => ts_nil) (fun s H C cl fp => (e_ix (u1 hr) (e_toB (e_var 1)) (e_var 3))))))) a_nil)) (by decide)))))
    ss_nil)
theorem sc_told_quarrel : FnScope ["parcels", "wishes", "places", "fewer", "place", "one", "some"] ["parcels", "wishes"] (defScope s_told_quarrel) := fnScope_by (by decide +kernel)
theorem ok_told_quarrel (B : Bi mg) (G_all_sets : DefOk P w K mg base T "all_sets" 1 1 F_all_sets) (G_has_choice : DefOk P w K mg base T "has_choice" 37 3 F_has_choice) {fa : Addr} {fd : FuncData} (Fn : FunD K "told_quarrel" "told_quarrel" (defArgs s_told_quarrel) (defBody s_told_quarrel) (defScope s_told_quarrel) [] [] fa fd) (hm : mg "told_quarrel" = some (.ref fa)) {c P0 : Addr} (hPT : P0 ∈ T) (TB : LamX.TabB base mg c P0) (hcd : fd.code = .ref c) : DefOk P w K mg base T "told_quarrel" 39 2 F_told_quarrel := by
  have hNd : (["parcels", "wishes", "places", "fewer", "place", "one", "some"] : List Str).Nodup := by decide
  exact def_ok (k := 38) Fn hm sc_told_quarrel (by decide) (FunD.bindsN (ps := ["parcels", "wishes"]) Fn fun _ _ _ _ _ _ us hl => match us, hl with | [_, _], _ => rfl) fun A outer s H E hr =>
    (ss_cons (s_for PassesOwn.never rfl (i_seq (q_e (e_call G_all_sets hr (a_cons (e_len B.len_ (e_toB (e_var 1))) a_nil) (by decide)))) (g_nm 2 hNd) (ss_cons (s_setLc 3 rfl hNd (i_seq (q_e (e_var 2))) (blkOk_by (own := [("place", 4)]) (by kernel_rfl)) (fun s H C cl fp => (g_nm 4 hNd)) (fun s H C cl fp => ts_nil) (fun s H C cl fp => (e_tupOf B.tuple_ (e_toB (e_new (f_lc rfl hNd (i_seq (q_e (e_var 2))) (blkOk_by (own := [("one", 5)]) (by kernel_rfl)) (fun s H C cl fp => (g_nm 5 hNd)) (fun s H C cl fp => (ts_one (t_cmp (c_ne (u64 hr)) b_ne (e_toB (e_var 5)) (e_toB (e_var 4)) (nomark _)))) (fun s H C cl fp => (e_var 5))))))))
    (ss_cons (s_if (t_bool (t_and (t_not (t_tru (e_toB (e_call G_has_choice hr (a_cons (e_var 0) (a_cons (e_var 1) (a_cons (e_var 2) a_nil))) (by decide))))) (t_and1 (t_tru (e_toB (e_all hr B.all_ hPT TB hcd (genSc_by (by decide +kernel)) rfl hNd (i_seq (q_e (e_var 3))) (blkOk_by (own := [("some", 6)]) (by kernel_rfl)) (fun s H cl C code fp a go => (g_nm 6 hNd)) (fun s H cl C code fp a go => ts_nil) (fun s H cl C code fp a go => (fun hr => (e_call G_has_choice hr (a_cons (e_var 0) (a_cons (e_var 1) (a_cons (e_var 6) a_nil))) (by decide))) (room_gen hr)))))))) (ss_cons (s_ret (e_var 2))
    ss_nil) ss_nil)
    ss_nil)))
    (ss_cons (s_ret e_non)
    ss_nil))
theorem sc__law_cell : FnScope ["script", "k"] ["script", "k"] (defScope s__law_cell) := fnScope_by (by decide +kernel)
theorem ok__law_cell (B : Bi mg) {fa : Addr} {fd : FuncData} (Fn : FunD K "_law_cell" "_law_cell" (defArgs s__law_cell) (defBody s__law_cell) (defScope s__law_cell) [] [] fa fd) (hm : mg "_law_cell" = some (.ref fa)) : DefOk P w K mg base T "_law_cell" 1 2 F__law_cell := by
  have hNd : (["script", "k"] : List Str).Nodup := by decide
  exact def_ok (k := 0) Fn hm sc__law_cell (by decide) (FunD.bindsN (ps := ["script", "k"]) Fn fun _ _ _ _ _ _ us hl => match us, hl with | [_, _], _ => rfl) fun A outer s H E hr =>
    (ss_cons (s_if (t_cmp (c_lt (u64 hr)) b_lt (e_toB (e_var 1)) (e_toB (e_len B.len_ (e_toB (e_var 0)))) (nomark _)) (ss_cons (s_ret (e_ix (u1 hr) (e_toB (e_var 0)) (e_var 1)))
    ss_nil) ss_nil)
    (ss_cons (s_ret (e_op o_add (e_toB (e_op o_mulI (e_toB e_int) (e_toB (e_var 1)))) (e_toB e_int)))
    ss_nil))
theorem sc__law_draws : FnScope ["cell", "count", "rest", "digits", "seed", "draws", "k", "mixed"] ["cell", "count"] (defScope s__law_draws) := fnScope_by (by decide +kernel)
theorem ok__law_draws (B : Bi mg) {fa : Addr} {fd : FuncData} (Fn : FunD K "_law_draws" "_law_draws" (defArgs s__law_draws) (defBody s__law_draws) (defScope s__law_draws) [] [] fa fd) (hm : mg "_law_draws" = some (.ref fa)) : DefOk P w K mg base T "_law_draws" 1 2 F__law_draws := by
  have hNd : (["cell", "count", "rest", "digits", "seed", "draws", "k", "mixed"] : List Str).Nodup := by decide
  exact def_ok (k := 0) Fn hm sc__law_draws (by decide) (FunD.bindsN (ps := ["cell", "count"]) Fn fun _ _ _ _ _ _ us hl => match us, hl with | [_, _], _ => rfl) fun A outer s H E hr =>
    (ss_cons (s_set 2 (e_abs B.abs_ (e_intOf B.int_ (e_var 0))) hNd)
    (ss_cons (s_set 3 (e_cmp (c_ge (u64 hr)) b_ge (e_toB (e_var 2)) (e_toB (e_op o_pow (e_toB e_int) (e_toB e_int))) (nomark _)) hNd)
    (ss_cons (s_set 4 (e_var 2) hNd)
    (ss_cons (s_own 5 (f_lst a_nil) hNd)
    (ss_cons (s_for PassesOwn.never rfl (i_range1 (q := false) B.range_ (e_var 1)) (g_nm 6 hNd) (ss_cons (s_if (t_bool (t_and (t_tru (e_toB (e_var 3))) (t_and1 (t_cmp (c_gt (u64 hr)) b_gt (e_toB (e_var 2)) (e_toB e_int) (nomark _))))) (ss_cons (s_app 5 (e_op o_mod (e_toB (e_intOf B.int_ (e_var 2))) (e_toB e_int)))
    (ss_cons (s_set 2 (e_op o_fdiv (e_toB (e_var 2)) (e_toB e_int)) hNd)
    ss_nil)) (ss_cons (s_set 7 (e_op o_mod (e_toB (e_intOf B.int_ (e_op o_add (e_toB (e_op o_add (e_toB (e_op o_mulI (e_toB (e_var 4)) (e_toB e_int))) (e_toB (e_op o_mulI (e_toB (e_op o_add (e_toB (e_var 6)) (e_toB e_int))) (e_toB e_int))))) (e_toB e_int)))) (e_toB e_int)) hNd)
    (ss_cons (s_set 7 (e_op o_mod (e_toB (e_intOf B.int_ (e_op o_add (e_toB (e_op o_mulI (e_toB (e_var 7)) (e_toB (e_var 7)))) (e_toB (e_op o_mulI (e_toB e_int) (e_toB (e_op o_add (e_toB (e_var 6)) (e_toB e_int)))))))) (e_toB e_int)) hNd)
    (ss_cons (s_app 5 (e_op o_mod (e_toB (e_intOf B.int_ (e_op o_fdiv (e_toB (e_var 7)) (e_toB e_int)))) (e_toB e_int)))
    ss_nil))))
    ss_nil))
    (ss_cons (s_retO 5)
    ss_nil))))))
theorem sc__law_is_integer : FnScope ["value"] ["value"] (defScope s__law_is_integer) := fnScope_by (by decide +kernel)
theorem ok__law_is_integer (B : Bi mg) {fa : Addr} {fd : FuncData} (Fn : FunD K "_law_is_integer" "_law_is_integer" (defArgs s__law_is_integer) (defBody s__law_is_integer) (defScope s__law_is_integer) [] [] fa fd) (hm : mg "_law_is_integer" = some (.ref fa)) : DefOk P w K mg base T "_law_is_integer" 1 1 F__law_is_integer := by
  have hNd : (["value"] : List Str).Nodup := by decide
  exact def_ok (k := 0) Fn hm sc__law_is_integer (by decide) (FunD.bindsN (ps := ["value"]) Fn fun _ _ _ _ _ _ us hl => match us, hl with | [_], _ => rfl) fun A outer s H E hr =>
    (ss_cons (s_ret (e_and (e_isi .int B.isinstance_ B.int_ (e_var 0)) (e_and1 (e_not (e_toB (e_isi .bool B.isinstance_ B.bool_ (e_var 0)))))))
    ss_nil)
theorem sc__law_is : FnScope ["value", "due", "at"] ["value", "due"] (defScope s__law_is) := fnScope_by (by decide +kernel)
theorem okr__law_is (B : Bi mg) (G__law_is_integer : DefOk P w K mg base T "_law_is_integer" 1 1 F__law_is_integer) {fa : Addr} {fd : FuncData} (Fn : FunD K "_law_is" "_law_is" (defArgs s__law_is) (defBody s__law_is) (defScope s__law_is) [] [] fa fd) (hm : mg "_law_is" = some (.ref fa)) : ∀ n : Nat, DefOk P w K mg base T "_law_is" (2 + 1 * n) 2 (R__law_is n)
  | 0 => def_none (N := []) Fn hm (FunD.bindsN (ps := ["value", "due"]) Fn fun _ _ _ _ _ _ us hl => match us, hl with | [_, _], _ => rfl) rfl
  | n + 1 => by
    have hNd : (["value", "due", "at"] : List Str).Nodup := by decide
    have G__law_is := okr__law_is B G__law_is_integer Fn hm n
    exact (def_ok (k := 2 + 1 * n + 0) Fn hm sc__law_is (by decide) (FunD.bindsN (ps := ["value", "due"]) Fn fun _ _ _ _ _ _ us hl => match us, hl with | [_, _], _ => rfl) fun A outer s H E hr =>
    (ss_cons (s_if (t_isN (e_toB (e_var 1))) (ss_cons (s_ret (e_isN (e_toB (e_var 0))))
    ss_nil) ss_nil)
    (ss_cons (s_if (t_tru (e_toB (e_isi .bool B.isinstance_ B.bool_ (e_var 1)))) (ss_cons (s_ret (e_and (e_isi .bool B.isinstance_ B.bool_ (e_var 0)) (e_and1 (e_cmp (c_eq (u64 hr)) b_eq (e_toB (e_var 0)) (e_toB (e_var 1)) (nomark _)))))
    ss_nil) ss_nil)
    (ss_cons (s_if (t_tru (e_toB (e_isi .int B.isinstance_ B.int_ (e_var 1)))) (ss_cons (s_ret (e_and (e_call G__law_is_integer hr (a_cons (e_var 0) a_nil) (by omega)) (e_and1 (e_cmp (c_eq (u64 hr)) b_eq (e_toB (e_var 0)) (e_toB (e_var 1)) (nomark _)))))
    ss_nil) ss_nil)
    (ss_cons (s_if (t_tru (e_toB (e_isi .str B.isinstance_ B.str_ (e_var 1)))) (ss_cons (s_ret (e_and (e_isi .str B.isinstance_ B.str_ (e_var 0)) (e_and1 (e_cmp (c_eq (u64 hr)) b_eq (e_toB (e_var 0)) (e_toB (e_var 1)) (nomark _)))))
    ss_nil) ss_nil)
    (ss_cons (s_if (t_bool (t_or (t_not (t_tru (e_toB (e_isi .tup B.isinstance_ B.tuple_ (e_var 0))))) (t_or1 (t_cmp (c_ne (u64 hr)) b_ne (e_toB (e_len B.len_ (e_toB (e_var 0)))) (e_toB (e_len B.len_ (e_toB (e_var 1)))) (nomark _))))) (ss_cons (s_ret e_bl)
    ss_nil) ss_nil)
    (ss_cons (s_ret (e_allL B.all_ (e_toB (e_new (f_lc rfl hNd (i_range1 (q := false) B.range_ (e_len B.len_ (e_toB (e_var 1)))) (blkOk_by (own := [("at", 2)]) (by kernel_rfl)) (fun s H C cl fp => (g_nm 2 hNd)) (fun s H C cl fp => ts_nil) (fun s H C cl fp => (e_call G__law_is hr (a_cons (e_ix (u1 hr) (e_toB (e_var 0)) (e_var 2)) (a_cons (e_ix (u1 hr) (e_toB (e_var 1)) (e_var 2)) a_nil)) (by omega))))))))
    ss_nil))))))).mono (by omega)
theorem ok__law_is (B : Bi mg) (G__law_is_integer : DefOk P w K mg base T "_law_is_integer" 1 1 F__law_is_integer) {fa : Addr} {fd : FuncData} (Fn : FunD K "_law_is" "_law_is" (defArgs s__law_is) (defBody s__law_is) (defScope s__law_is) [] [] fa fd) (hm : mg "_law_is" = some (.ref fa)) : DefOk P w K mg base T "_law_is" 32 2 F__law_is := okr__law_is B G__law_is_integer Fn hm 30
theorem sc__law_is_integers : FnScope ["value", "number"] ["value"] (defScope s__law_is_integers) := fnScope_by (by decide +kernel)
theorem ok__law_is_integers (B : Bi mg) (G__law_is_integer : DefOk P w K mg base T "_law_is_integer" 1 1 F__law_is_integer) {fa : Addr} {fd : FuncData} (Fn : FunD K "_law_is_integers" "_law_is_integers" (defArgs s__law_is_integers) (defBody s__law_is_integers) (defScope s__law_is_integers) [] [] fa fd) (hm : mg "_law_is_integers" = some (.ref fa)) : DefOk P w K mg base T "_law_is_integers" 2 1 F__law_is_integers := by
  have hNd : (["value", "number"] : List Str).Nodup := by decide
  exact def_ok (k := 1) Fn hm sc__law_is_integers (by decide) (FunD.bindsN (ps := ["value"]) Fn fun _ _ _ _ _ _ us hl => match us, hl with | [_], _ => rfl) fun A outer s H E hr =>
    (ss_cons (s_ret (e_and (e_isi .tup B.isinstance_ B.tuple_ (e_var 0)) (e_and1 (e_allL B.all_ (e_toB (e_new (f_lc rfl hNd (i_seq (q_e (e_var 0))) (blkOk_by (own := [("number", 1)]) (by kernel_rfl)) (fun s H C cl fp => (g_nm 1 hNd)) (fun s H C cl fp => ts_nil) (fun s H C cl fp => (e_call G__law_is_integer hr (a_cons (e_var 1) a_nil) (by decide))))))))))
    ss_nil)
theorem sc__law_place : FnScope ["n", "sign"] ["n", "sign"] (defScope s__law_place) := fnScope_by (by decide +kernel)
theorem ok__law_place (B : Bi mg) {fa : Addr} {fd : FuncData} (Fn : FunD K "_law_place" "_law_place" (defArgs s__law_place) (defBody s__law_place) (defScope s__law_place) [] [] fa fd) (hm : mg "_law_place" = some (.ref fa)) : DefOk P w K mg base T "_law_place" 1 2 F__law_place := by
  have hNd : (["n", "sign"] : List Str).Nodup := by decide
  exact def_ok (k := 0) Fn hm sc__law_place (by decide) (FunD.bindsN (ps := ["n", "sign"]) Fn fun _ _ _ _ _ _ us hl => match us, hl with | [_, _], _ => rfl) fun A outer s H E hr =>
    (ss_cons (s_ret (e_if (t_cmp (c_gt (u64 hr)) b_gt (e_toB (e_var 1)) (e_toB e_int) (nomark _)) (e_op o_sub (e_toB (e_var 1)) (e_toB e_int)) (e_op o_sub (e_toB (e_op o_sub (e_toB (e_var 0)) (e_toB (e_var 1)))) (e_toB e_int))))
    ss_nil)
theorem sc__law_signs : FnScope ["n", "at"] ["n"] (defScope s__law_signs) := fnScope_by (by decide +kernel)
theorem ok__law_signs (B : Bi mg) {fa : Addr} {fd : FuncData} (Fn : FunD K "_law_signs" "_law_signs" (defArgs s__law_signs) (defBody s__law_signs) (defScope s__law_signs) [] [] fa fd) (hm : mg "_law_signs" = some (.ref fa)) : DefOk P w K mg base T "_law_signs" 1 1 F__law_signs := by
  have hNd : (["n", "at"] : List Str).Nodup := by decide
  exact def_ok (k := 0) Fn hm sc__law_signs (by decide) (FunD.bindsN (ps := ["n"]) Fn fun _ _ _ _ _ _ us hl => match us, hl with | [_], _ => rfl) fun A outer s H E hr =>
    (ss_cons (s_ret (e_op o_add (e_toB (e_new (f_lc rfl hNd (i_range1 (q := false) B.range_ (e_var 0)) (blkOk_by (own := [("at", 1)]) (by kernel_rfl)) (fun s H C cl fp => (g_nm 1 hNd)) (fun s H C cl fp => ts_nil) (fun s H C cl fp => (e_op o_add (e_toB (e_var 1)) (e_toB e_int)))))) (e_toB (e_new (f_lc rfl hNd (i_range1 (q := false) B.range_ (e_var 0)) (blkOk_by (own := [("at", 1)]) (by kernel_rfl)) (fun s H C cl fp => (g_nm 1 hNd)) (fun s H C cl fp => ts_nil) (fun s H C cl fp => (e_op o_sub (e_toB (e_op o_sub (e_toB e_int) (e_toB (e_var 1)))) (e_toB e_int))))))))
    ss_nil)
theorem sc__law_leads : FnScope ["rules", "a", "b"] ["rules"] (defScope s__law_leads) := fnScope_by (by decide +kernel)
theorem ok__law_leads (B : Bi mg) {fa : Addr} {fd : FuncData} (Fn : FunD K "_law_leads" "_law_leads" (defArgs s__law_leads) (defBody s__law_leads) (defScope s__law_leads) [] [] fa fd) (hm : mg "_law_leads" = some (.ref fa)) : DefOk P w K mg base T "_law_leads" 1 1 F__law_leads := by
  have hNd : (["rules", "a", "b"] : List Str).Nodup := by decide
  exact def_ok (k := 0) Fn hm sc__law_leads (by decide) (FunD.bindsN (ps := ["rules"]) Fn fun _ _ _ _ _ _ us hl => match us, hl with | [_], _ => rfl) fun A outer s H E hr =>
    (ss_cons (s_ret (e_new (f_sortSetA (u64 hr) B.sorted_ B.set_ (e_toB (e_op o_add (e_toB (e_new (f_lc rfl hNd (i_seq (q_e (e_var 0))) (blkOk_by (own := [("a", 1), ("b", 2)]) (by kernel_rfl)) (fun s H C cl fp => (g_tp (gs_cons (g_nm 1 hNd) (gs_cons (g_nm 2 hNd) gs_nil)))) (fun s H C cl fp => ts_nil) (fun s H C cl fp => (e_tup (a_cons (e_var 1) (a_cons (e_var 2) a_nil))))))) (e_toB (e_new (f_lc rfl hNd (i_seq (q_e (e_var 0))) (blkOk_by (own := [("a", 1), ("b", 2)]) (by kernel_rfl)) (fun s H C cl fp => (g_tp (gs_cons (g_nm 1 hNd) (gs_cons (g_nm 2 hNd) gs_nil)))) (fun s H C cl fp => ts_nil) (fun s H C cl fp => (e_tup (a_cons (e_op o_sub (e_toB e_int) (e_toB (e_var 2))) (a_cons (e_op o_sub (e_toB e_int) (e_toB (e_var 1))) a_nil))))))))))))
    ss_nil)
theorem sc__law_reach : FnScope ["n", "rules", "sign", "found", "turn", "a", "b"] ["n", "rules", "sign"] (defScope s__law_reach) := fnScope_by (by decide +kernel)
theorem ok__law_reach (B : Bi mg) (G__law_leads : DefOk P w K mg base T "_law_leads" 1 1 F__law_leads) {fa : Addr} {fd : FuncData} (Fn : FunD K "_law_reach" "_law_reach" (defArgs s__law_reach) (defBody s__law_reach) (defScope s__law_reach) [] [] fa fd) (hm : mg "_law_reach" = some (.ref fa)) : DefOk P w K mg base T "_law_reach" 2 3 F__law_reach := by
  have hNd : (["n", "rules", "sign", "found", "turn", "a", "b"] : List Str).Nodup := by decide
  exact def_ok (k := 1) Fn hm sc__law_reach (by decide) (FunD.bindsN (ps := ["n", "rules", "sign"]) Fn fun _ _ _ _ _ _ us hl => match us, hl with | [_, _, _], _ => rfl) fun A outer s H E hr =>
    (ss_cons (s_set 3 (e_new (f_lst (a_cons (e_var 2) a_nil))) hNd)
    (ss_cons (s_for PassesOwn.never rfl (i_range1 (q := false) B.range_ (e_op o_mulI (e_toB e_int) (e_toB (e_var 0)))) (g_nm 4 hNd) (ss_cons (s_set 3 (e_op o_add (e_toB (e_var 3)) (e_toB (e_new (f_sortSetA (u64 hr) B.sorted_ B.set_ (e_toB (e_new (f_lc rfl hNd (i_seq (q_e (e_call G__law_leads hr (a_cons (e_var 1) a_nil) (by decide)))) (blkOk_by (own := [("a", 5), ("b", 6)]) (by kernel_rfl)) (fun s H C cl fp => (g_tp (gs_cons (g_nm 5 hNd) (gs_cons (g_nm 6 hNd) gs_nil)))) (fun s H C cl fp => (ts_one (t_bool (t_and (t_cmp (c_in (u100 hr)) b_in (e_toB (e_var 5)) (e_toB (e_var 3)) (by rfl)) (t_and1 (t_cmp (c_nin (u100 hr)) b_nin (e_toB (e_var 6)) (e_toB (e_var 3)) (by rfl))))))) (fun s H C cl fp => (e_var 6))))))))) hNd)
    ss_nil))
    (ss_cons (s_ret (e_var 3))
    ss_nil)))
theorem sc__law_alive : FnScope ["n", "rules", "sign", "links", "places", "told", "a", "b", "one"] ["n", "rules", "sign"] (defScope s__law_alive) := fnScope_by (by decide +kernel)
theorem ok__law_alive (B : Bi mg) (G_alive_cells : DefOk P w K mg base T "alive_cells" 2 3 F_alive_cells) (G__law_is : DefOk P w K mg base T "_law_is" 32 2 F__law_is) (G__law_place : DefOk P w K mg base T "_law_place" 1 2 F__law_place) (G__law_signs : DefOk P w K mg base T "_law_signs" 1 1 F__law_signs) (G__law_leads : DefOk P w K mg base T "_law_leads" 1 1 F__law_leads) (G__law_reach : DefOk P w K mg base T "_law_reach" 2 3 F__law_reach) {fa : Addr} {fd : FuncData} (Fn : FunD K "_law_alive" "_law_alive" (defArgs s__law_alive) (defBody s__law_alive) (defScope s__law_alive) [] [] fa fd) (hm : mg "_law_alive" = some (.ref fa)) : DefOk P w K mg base T "_law_alive" 33 3 F__law_alive := by
  have hNd : (["n", "rules", "sign", "links", "places", "told", "a", "b", "one"] : List Str).Nodup := by decide
  exact def_ok (k := 32) Fn hm sc__law_alive (by decide) (FunD.bindsN (ps := ["n", "rules", "sign"]) Fn fun _ _ _ _ _ _ us hl => match us, hl with | [_, _, _], _ => rfl) fun A outer s H E hr =>
    (ss_cons (s_set 3 (e_tupOf B.tuple_ (e_toB (e_new (f_sort (u100 hr) B.sorted_ (e_toB (e_new (f_lc rfl hNd (i_seq (q_e (e_call G__law_leads hr (a_cons (e_var 1) a_nil) (by decide)))) (blkOk_by (own := [("a", 6), ("b", 7)]) (by kernel_rfl)) (fun s H C cl fp => (g_tp (gs_cons (g_nm 6 hNd) (gs_cons (g_nm 7 hNd) gs_nil)))) (fun s H C cl fp => ts_nil) (fun s H C cl fp => (e_tup (a_cons (e_call G__law_place hr (a_cons (e_var 0) (a_cons (e_var 6) a_nil)) (by decide)) (a_cons (e_call G__law_place hr (a_cons (e_var 0) (a_cons (e_var 7) a_nil)) (by decide)) a_nil))))))))))) hNd)
    (ss_cons (s_set 4 (e_new (f_sort (u100 hr) B.sorted_ (e_toB (e_new (f_lc rfl hNd (i_seq (q_e (e_call G__law_reach hr (a_cons (e_var 0) (a_cons (e_var 1) (a_cons (e_var 2) a_nil))) (by decide)))) (blkOk_by (own := [("one", 8)]) (by kernel_rfl)) (fun s H C cl fp => (g_nm 8 hNd)) (fun s H C cl fp => ts_nil) (fun s H C cl fp => (e_call G__law_place hr (a_cons (e_var 0) (a_cons (e_var 8) a_nil)) (by decide)))))))) hNd)
    (ss_cons (s_set 5 (e_call G_alive_cells hr (a_cons (e_op o_mulI (e_toB e_int) (e_toB (e_var 0))) (a_cons (e_var 3) (a_cons (e_tup (a_cons (e_call G__law_place hr (a_cons (e_var 0) (a_cons (e_var 2) a_nil)) (by decide)) a_nil)) a_nil))) (by decide)) hNd)
    (ss_cons (s_if (t_not (t_tru (e_toB (e_call G__law_is hr (a_cons (e_var 5) (a_cons (e_tupOf B.tuple_ (e_toB (e_var 4))) a_nil)) (by decide))))) (ss_cons (s_ret e_non)
    ss_nil) ss_nil)
    (ss_cons (s_ret (e_new (f_lc rfl hNd (i_seq (q_e (e_call G__law_signs hr (a_cons (e_var 0) a_nil) (by decide)))) (blkOk_by (own := [("one", 8)]) (by kernel_rfl)) (fun s H C cl fp => (g_nm 8 hNd)) (fun s H C cl fp => (ts_one (t_cmp (c_in (u100 hr)) b_in (e_toB (e_call G__law_place hr (a_cons (e_var 0) (a_cons (e_var 8) a_nil)) (by decide))) (e_toB (e_var 5)) (by rfl)))) (fun s H C cl fp => (e_var 8)))))
    ss_nil)))))
theorem sc__law_has : FnScope ["row", "sign"] ["row", "sign"] (defScope s__law_has) := fnScope_by (by decide +kernel)
theorem ok__law_has (B : Bi mg) {fa : Addr} {fd : FuncData} (Fn : FunD K "_law_has" "_law_has" (defArgs s__law_has) (defBody s__law_has) (defScope s__law_has) [] [] fa fd) (hm : mg "_law_has" = some (.ref fa)) : DefOk P w K mg base T "_law_has" 1 2 F__law_has := by
  have hNd : (["row", "sign"] : List Str).Nodup := by decide
  exact def_ok (k := 0) Fn hm sc__law_has (by decide) (FunD.bindsN (ps := ["row", "sign"]) Fn fun _ _ _ _ _ _ us hl => match us, hl with | [_, _], _ => rfl) fun A outer s H E hr =>
    (ss_cons (s_ret (e_cmp (c_eq (u64 hr)) b_eq (e_toB (e_ix (u1 hr) (e_toB (e_var 0)) (e_op o_sub (e_toB (e_abs B.abs_ (e_var 1))) (e_toB e_int)))) (e_ifB (t_cmp (c_gt (u64 hr)) b_gt (e_toB (e_var 1)) (e_toB e_int) (nomark _)) (e_toB e_int) (e_toB e_int)) (nomark _)))
    ss_nil)
theorem sc__law_every : FnScope ["n", "rules", "rows", "at", "longer", "row", "a", "b"] ["n", "rules"] (defScope s__law_every) := fnScope_by (by decide +kernel)
theorem ok__law_every (B : Bi mg) (G__law_has : DefOk P w K mg base T "_law_has" 1 2 F__law_has) {fa : Addr} {fd : FuncData} (Fn : FunD K "_law_every" "_law_every" (defArgs s__law_every) (defBody s__law_every) (defScope s__law_every) [] [] fa fd) (hm : mg "_law_every" = some (.ref fa)) : DefOk P w K mg base T "_law_every" 2 2 F__law_every := by
  have hNd : (["n", "rules", "rows", "at", "longer", "row", "a", "b"] : List Str).Nodup := by decide
  exact def_ok (k := 1) Fn hm sc__law_every (by decide) (FunD.bindsN (ps := ["n", "rules"]) Fn fun _ _ _ _ _ _ us hl => match us, hl with | [_, _], _ => rfl) fun A outer s H E hr =>
    (ss_cons (s_set 2 (e_new (f_lst (a_cons (e_tup a_nil) a_nil))) hNd)
    (ss_cons (s_for PassesOwn.never rfl (i_range1 (q := false) B.range_ (e_var 0)) (g_nm 3 hNd) (ss_cons (s_set 4 (e_new (f_lst a_nil)) hNd)
    (ss_cons (s_for PassesOwn.never rfl (i_seq (q_e (e_var 2))) (g_nm 5 hNd) (ss_cons (s_set 4 (e_op o_add (e_toB (e_var 4)) (e_toB (e_new (f_lst (a_cons (e_op o_add (e_toB (e_var 5)) (e_toB (e_tup (a_cons e_int a_nil)))) (a_cons (e_op o_add (e_toB (e_var 5)) (e_toB (e_tup (a_cons e_int a_nil)))) a_nil)))))) hNd)
    ss_nil))
    (ss_cons (s_set 2 (e_var 4) hNd)
    ss_nil))))
    (ss_cons (s_ret (e_new (f_lc rfl hNd (i_seq (q_e (e_var 2))) (blkOk_by (own := [("row", 5)]) (by kernel_rfl)) (fun s H C cl fp => (g_nm 5 hNd)) (fun s H C cl fp => (ts_one (t_tru (e_toB (e_allL B.all_ (e_toB (e_new (f_lc rfl hNd (i_seq (q_e (e_var 1))) (blkOk_by (own := [("a", 6), ("b", 7)]) (by kernel_rfl)) (fun s H C cl fp => (g_tp (gs_cons (g_nm 6 hNd) (gs_cons (g_nm 7 hNd) gs_nil)))) (fun s H C cl fp => ts_nil) (fun s H C cl fp => (e_or (e_not (e_toB (e_call G__law_has hr (a_cons (e_var 5) (a_cons (e_var 6) a_nil)) (by decide)))) (e_or1 (e_call G__law_has hr (a_cons (e_var 5) (a_cons (e_var 7) a_nil)) (by decide))))))))))))) (fun s H C cl fp => (e_var 5)))))
    ss_nil)))
theorem sc__law_version : FnScope ["sign"] ["sign"] (defScope s__law_version) := fnScope_by (by decide +kernel)
theorem ok__law_version (B : Bi mg) {fa : Addr} {fd : FuncData} (Fn : FunD K "_law_version" "_law_version" (defArgs s__law_version) (defBody s__law_version) (defScope s__law_version) [] [] fa fd) (hm : mg "_law_version" = some (.ref fa)) : DefOk P w K mg base T "_law_version" 1 1 F__law_version := by
  have hNd : (["sign"] : List Str).Nodup := by decide
  exact def_ok (k := 0) Fn hm sc__law_version (by decide) (FunD.bindsN (ps := ["sign"]) Fn fun _ _ _ _ _ _ us hl => match us, hl with | [_], _ => rfl) fun A outer s H E hr =>
    (ss_cons (s_ret (e_if (t_cmp (c_gt (u64 hr)) b_gt (e_toB (e_var 0)) (e_toB e_int) (nomark _)) e_int e_int))
    ss_nil)
theorem sc__law_parcels : FnScope ["n", "rules", "parcels", "at", "versions", "sign", "needs", "other", "due", "a", "b"] ["n", "rules"] (defScope s__law_parcels) := fnScope_by (by decide +kernel)
theorem ok__law_parcels (B : Bi mg) (G__law_leads : DefOk P w K mg base T "_law_leads" 1 1 F__law_leads) (G__law_version : DefOk P w K mg base T "_law_version" 1 1 F__law_version) {fa : Addr} {fd : FuncData} (Fn : FunD K "_law_parcels" "_law_parcels" (defArgs s__law_parcels) (defBody s__law_parcels) (defScope s__law_parcels) [] [] fa fd) (hm : mg "_law_parcels" = some (.ref fa)) : DefOk P w K mg base T "_law_parcels" 2 2 F__law_parcels := by
  have hNd : (["n", "rules", "parcels", "at", "versions", "sign", "needs", "other", "due", "a", "b"] : List Str).Nodup := by decide
  exact def_ok (k := 1) Fn hm sc__law_parcels (by decide) (FunD.bindsN (ps := ["n", "rules"]) Fn fun _ _ _ _ _ _ us hl => match us, hl with | [_, _], _ => rfl) fun A outer s H E hr =>
    (ss_cons (s_set 2 (e_tup a_nil) hNd)
    (ss_cons (s_for PassesOwn.never rfl (i_range1 (q := false) B.range_ (e_var 0)) (g_nm 3 hNd) (ss_cons (s_set 4 (e_tup a_nil) hNd)
    (ss_cons (s_for PassesOwn.never rfl (i_seq (q_e (e_tup (a_cons (e_op o_add (e_toB (e_var 3)) (e_toB e_int)) (a_cons (e_op o_sub (e_toB (e_op o_sub (e_toB e_int) (e_toB (e_var 3)))) (e_toB e_int)) a_nil))))) (g_nm 5 hNd) (ss_cons (s_set 6 (e_tup a_nil) hNd)
    (ss_cons (s_for PassesOwn.never rfl (i_range1 (q := false) B.range_ (e_var 0)) (g_nm 7 hNd) (ss_cons (s_setLc 8 rfl hNd (i_seq (q_e (e_call G__law_leads hr (a_cons (e_var 1) a_nil) (by decide)))) (blkOk_by (own := [("a", 9), ("b", 10)]) (by kernel_rfl)) (fun s H C cl fp => (g_tp (gs_cons (g_nm 9 hNd) (gs_cons (g_nm 10 hNd) gs_nil)))) (fun s H C cl fp => (ts_one (t_bool (t_and (t_cmp (c_eq (u64 hr)) b_eq (e_toB (e_var 9)) (e_toB (e_var 5)) (nomark _)) (t_and (t_cmp (c_eq (u64 hr)) b_eq (e_toB (e_abs B.abs_ (e_var 10))) (e_toB (e_op o_add (e_toB (e_var 7)) (e_toB e_int))) (nomark _)) (t_and1 (t_cmp (c_ne (u64 hr)) b_ne (e_toB (e_var 7)) (e_toB (e_var 3)) (nomark _)))))))) (fun s H C cl fp => (e_call G__law_version hr (a_cons (e_var 10) a_nil) (by decide))))
    (ss_cons (s_if (t_cmp (c_gt (u64 hr)) b_gt (e_toB (e_len B.len_ (e_toB (e_var 8)))) (e_toB e_int) (nomark _)) (ss_cons (s_set 6 (e_op o_add (e_toB (e_var 6)) (e_toB (e_tup (a_cons (e_tup (a_cons (e_var 7) (a_cons (e_if (t_cmp (c_eq (u64 hr)) b_eq (e_toB (e_lenSet B.len_ B.set_ (e_toB (e_var 8)))) (e_toB e_int) (nomark _)) (e_tup (a_cons (e_ix (u1 hr) (e_toB (e_var 8)) e_int) a_nil)) (e_tup (a_cons e_int a_nil))) a_nil))) a_nil)))) hNd)
    ss_nil) ss_nil)
    ss_nil)))
    (ss_cons (s_set 4 (e_op o_add (e_toB (e_var 4)) (e_toB (e_tup (a_cons (e_var 6) a_nil)))) hNd)
    ss_nil))))
    (ss_cons (s_set 2 (e_op o_add (e_toB (e_var 2)) (e_toB (e_tup (a_cons (e_var 4) a_nil)))) hNd)
    ss_nil))))
    (ss_cons (s_ret (e_var 2))
    ss_nil)))
theorem sc__law_wishes : FnScope ["n", "rules", "signs", "wishes", "at", "fit", "sign"] ["n", "rules", "signs"] (defScope s__law_wishes) := fnScope_by (by decide +kernel)
theorem ok__law_wishes (B : Bi mg) (G__law_leads : DefOk P w K mg base T "_law_leads" 1 1 F__law_leads) (G__law_version : DefOk P w K mg base T "_law_version" 1 1 F__law_version) {fa : Addr} {fd : FuncData} (Fn : FunD K "_law_wishes" "_law_wishes" (defArgs s__law_wishes) (defBody s__law_wishes) (defScope s__law_wishes) [] [] fa fd) (hm : mg "_law_wishes" = some (.ref fa)) : DefOk P w K mg base T "_law_wishes" 2 3 F__law_wishes := by
  have hNd : (["n", "rules", "signs", "wishes", "at", "fit", "sign"] : List Str).Nodup := by decide
  exact def_ok (k := 1) Fn hm sc__law_wishes (by decide) (FunD.bindsN (ps := ["n", "rules", "signs"]) Fn fun _ _ _ _ _ _ us hl => match us, hl with | [_, _, _], _ => rfl) fun A outer s H E hr =>
    (ss_cons (s_set 3 (e_tup a_nil) hNd)
    (ss_cons (s_for PassesOwn.never rfl (i_range1 (q := false) B.range_ (e_var 0)) (g_nm 4 hNd) (ss_cons (s_own 5 (f_lst a_nil) hNd)
    (ss_cons (s_for PassesOwn.never rfl (i_seq (q_e (e_tup (a_cons (e_op o_add (e_toB (e_var 4)) (e_toB e_int)) (a_cons (e_op o_sub (e_toB (e_op o_sub (e_toB e_int) (e_toB (e_var 4)))) (e_toB e_int)) a_nil))))) (g_nm 6 hNd) (ss_cons (s_if (t_bool (t_and (t_cmp (c_nin (u100 hr)) b_nin (e_toB (e_tup (a_cons (e_var 6) (a_cons (e_op o_sub (e_toB e_int) (e_toB (e_var 6))) a_nil)))) (e_toB (e_call G__law_leads hr (a_cons (e_var 1) a_nil) (by decide))) (by rfl)) (t_and1 (t_cmp (c_nin (u100 hr)) b_nin (e_toB (e_op o_sub (e_toB e_int) (e_toB (e_var 6)))) (e_toB (e_var 2)) (by rfl))))) (ss_cons (s_app 5 (e_call G__law_version hr (a_cons (e_var 6) a_nil) (by decide)))
    ss_nil) ss_nil)
    ss_nil))
    (ss_cons (s_set 3 (e_op o_add (e_toB (e_var 3)) (e_toB (e_tup (a_cons (e_tup (a_cons (e_var 4) (a_cons (e_if (t_cmp (c_gt (u64 hr)) b_gt (e_toB (e_len B.len_ (e_own 5))) (e_toB e_int) (nomark _)) (e_tupOf B.tuple_ (e_own 5)) (e_tup (a_cons e_int a_nil))) a_nil))) a_nil)))) hNd)
    ss_nil))))
    (ss_cons (s_ret (e_var 3))
    ss_nil)))
theorem sc__law_walk : FnScope ["rules", "signs", "leads", "at"] ["rules", "signs"] (defScope s__law_walk) := fnScope_by (by decide +kernel)
theorem ok__law_walk (B : Bi mg) (G__law_is_integers : DefOk P w K mg base T "_law_is_integers" 2 1 F__law_is_integers) (G__law_leads : DefOk P w K mg base T "_law_leads" 1 1 F__law_leads) {fa : Addr} {fd : FuncData} (Fn : FunD K "_law_walk" "_law_walk" (defArgs s__law_walk) (defBody s__law_walk) (defScope s__law_walk) [] [] fa fd) (hm : mg "_law_walk" = some (.ref fa)) : DefOk P w K mg base T "_law_walk" 3 2 F__law_walk := by
  have hNd : (["rules", "signs", "leads", "at"] : List Str).Nodup := by decide
  exact def_ok (k := 2) Fn hm sc__law_walk (by decide) (FunD.bindsN (ps := ["rules", "signs"]) Fn fun _ _ _ _ _ _ us hl => match us, hl with | [_, _], _ => rfl) fun A outer s H E hr =>
    (ss_cons (s_set 2 (e_call G__law_leads hr (a_cons (e_var 0) a_nil) (by decide)) hNd)
    (ss_cons (s_ret (e_and (e_call G__law_is_integers hr (a_cons (e_var 1) a_nil) (by decide)) (e_and (e_cmp (c_gt (u64 hr)) b_gt (e_toB (e_len B.len_ (e_toB (e_var 1)))) (e_toB e_int) (nomark _)) (e_and1 (e_allL B.all_ (e_toB (e_new (f_lc rfl hNd (i_range1 (q := false) B.range_ (e_op o_sub (e_toB (e_len B.len_ (e_toB (e_var 1)))) (e_toB e_int))) (blkOk_by (own := [("at", 3)]) (by kernel_rfl)) (fun s H C cl fp => (g_nm 3 hNd)) (fun s H C cl fp => ts_nil) (fun s H C cl fp => (e_cmp (c_in (u100 hr)) b_in (e_toB (e_tup (a_cons (e_ix (u1 hr) (e_toB (e_var 1)) (e_var 3)) (a_cons (e_ix (u1 hr) (e_toB (e_var 1)) (e_op o_add (e_toB (e_var 3)) (e_toB e_int))) a_nil)))) (e_toB (e_var 2)) (by rfl)))))))))))
    ss_nil))
theorem sc__law_tangled : FnScope ["n", "rules", "signs"] ["n", "rules", "signs"] (defScope s__law_tangled) := fnScope_by (by decide +kernel)
theorem ok__law_tangled (B : Bi mg) (G__law_walk : DefOk P w K mg base T "_law_walk" 3 2 F__law_walk) {fa : Addr} {fd : FuncData} (Fn : FunD K "_law_tangled" "_law_tangled" (defArgs s__law_tangled) (defBody s__law_tangled) (defScope s__law_tangled) [] [] fa fd) (hm : mg "_law_tangled" = some (.ref fa)) : DefOk P w K mg base T "_law_tangled" 4 3 F__law_tangled := by
  have hNd : (["n", "rules", "signs"] : List Str).Nodup := by decide
  exact def_ok (k := 3) Fn hm sc__law_tangled (by decide) (FunD.bindsN (ps := ["n", "rules", "signs"]) Fn fun _ _ _ _ _ _ us hl => match us, hl with | [_, _, _], _ => rfl) fun A outer s H E hr =>
    (ss_cons (s_ret (e_and (e_call G__law_walk hr (a_cons (e_var 1) (a_cons (e_var 2) a_nil)) (by decide)) (e_and (e_cmp (c_le (u64 hr)) b_le (e_toB (e_abs B.abs_ (e_ix (u1 hr) (e_toB (e_var 2)) e_int))) (e_toB (e_var 0)) (nomark _)) (e_and (e_cmp (c_eq (u64 hr)) b_eq (e_toB (e_ix (u1 hr) (e_toB (e_var 2)) e_int)) (e_toB (e_ix (u1 hr) (e_toB (e_var 2)) (e_neg e_int))) (nomark _)) (e_and1 (e_cmp (c_in (u100 hr)) b_in (e_toB (e_op o_sub (e_toB e_int) (e_toB (e_ix (u1 hr) (e_toB (e_var 2)) e_int)))) (e_toB (e_var 2)) (by rfl)))))))
    ss_nil)
theorem sc__law_reasoned : FnScope ["n", "rules", "rule", "rows", "stuck", "a", "b", "due", "from_if", "from_not", "told", "ends", "choice", "free", "row", "sign", "switch"] ["n", "rules", "rule", "rows", "stuck"] (defScope s__law_reasoned) := fnScope_by (by decide +kernel)
theorem ok__law_reasoned (B : Bi mg) (G_reason_for : DefOk P w K mg base T "reason_for" 4 3 F_reason_for) (G_does_follow : DefOk P w K mg base T "does_follow" 5 3 F_does_follow) (G_is_reason : DefOk P w K mg base T "is_reason" 5 4 F_is_reason) (G_told_choice : DefOk P w K mg base T "told_choice" 36 2 F_told_choice) (G__law_is : DefOk P w K mg base T "_law_is" 32 2 F__law_is) (G__law_alive : DefOk P w K mg base T "_law_alive" 33 3 F__law_alive) (G__law_has : DefOk P w K mg base T "_law_has" 1 2 F__law_has) (G__law_parcels : DefOk P w K mg base T "_law_parcels" 2 2 F__law_parcels) (G__law_wishes : DefOk P w K mg base T "_law_wishes" 2 3 F__law_wishes) (G__law_walk : DefOk P w K mg base T "_law_walk" 3 2 F__law_walk) (G__law_tangled : DefOk P w K mg base T "_law_tangled" 4 3 F__law_tangled) {fa : Addr} {fd : FuncData} (Fn : FunD K "_law_reasoned" "_law_reasoned" (defArgs s__law_reasoned) (defBody s__law_reasoned) (defScope s__law_reasoned) [] [] fa fd) (hm : mg "_law_reasoned" = some (.ref fa)) : DefOk P w K mg base T "_law_reasoned" 37 5 F__law_reasoned := by
  have hNd : (["n", "rules", "rule", "rows", "stuck", "a", "b", "due", "from_if", "from_not", "told", "ends", "choice", "free", "row", "sign", "switch"] : List Str).Nodup := by decide
  exact def_ok (k := 36) Fn hm sc__law_reasoned (by decide) (FunD.bindsN (ps := ["n", "rules", "rule", "rows", "stuck"]) Fn fun _ _ _ _ _ _ us hl => match us, hl with | [_, _, _, _, _], _ => rfl) fun A outer s H E hr =>
    (ss_cons (s_asg (e_var 2) (g_tp (gs_cons (g_nm 5 hNd) (gs_cons (g_nm 6 hNd) gs_nil))))
    (ss_cons (s_set 7 (e_allL B.all_ (e_toB (e_new (f_lc rfl hNd (i_seq (q_e (e_var 3))) (blkOk_by (own := [("row", 14)]) (by kernel_rfl)) (fun s H C cl fp => (g_nm 14 hNd)) (fun s H C cl fp => ts_nil) (fun s H C cl fp => (e_or (e_not (e_toB (e_call G__law_has hr (a_cons (e_var 14) (a_cons (e_var 5) a_nil)) (by decide)))) (e_or1 (e_call G__law_has hr (a_cons (e_var 14) (a_cons (e_var 6) a_nil)) (by decide))))))))) hNd)
    (ss_cons (s_set 8 (e_call G__law_alive hr (a_cons (e_var 0) (a_cons (e_var 1) (a_cons (e_var 5) a_nil))) (by decide)) hNd)
    (ss_cons (s_set 9 (e_call G__law_alive hr (a_cons (e_var 0) (a_cons (e_var 1) (a_cons (e_op o_sub (e_toB e_int) (e_toB (e_var 6))) a_nil))) (by decide)) hNd)
    (ss_cons (s_if (t_bool (t_or (t_isN (e_toB (e_var 8))) (t_or1 (t_isN (e_toB (e_var 9)))))) (ss_cons (s_ret e_bl)
    ss_nil) ss_nil)
    (ss_cons (s_if (t_cmp (c_ne (u64 hr)) b_ne (e_toB (e_or (e_cmp (c_in (u100 hr)) b_in (e_toB (e_var 6)) (e_toB (e_var 8)) (by rfl)) (e_or (e_cmp (c_in (u100 hr)) b_in (e_toB (e_op o_sub (e_toB e_int) (e_toB (e_var 5)))) (e_toB (e_var 8)) (by rfl)) (e_or (e_cmp (c_in (u100 hr)) b_in (e_toB (e_var 6)) (e_toB (e_var 9)) (by rfl)) (e_or1 (e_var 4)))))) (e_toB (e_var 7)) (nomark _)) (ss_cons (s_ret e_bl)
    ss_nil) ss_nil)
    (ss_cons (s_set 10 (e_call G_reason_for hr (a_cons (e_var 0) (a_cons (e_var 1) (a_cons (e_var 2) a_nil))) (by decide)) hNd)
    (ss_cons (s_if (t_bool (t_or (t_not (t_tru (e_toB (e_call G__law_is hr (a_cons (e_call G_does_follow hr (a_cons (e_var 0) (a_cons (e_var 1) (a_cons (e_var 2) a_nil))) (by decide)) (a_cons (e_var 7) a_nil)) (by decide))))) (t_or1 (t_cmp (c_eq (u64 hr)) b_eq (e_toB (e_isN (e_toB (e_var 10)))) (e_toB (e_var 7)) (nomark _))))) (ss_cons (s_ret e_bl)
    ss_nil) ss_nil)
    (ss_cons (s_if (t_notN (e_toB (e_var 10))) (ss_cons (s_if (t_bool (t_or (t_not (t_tru (e_toB (e_call G__law_walk hr (a_cons (e_var 1) (a_cons (e_var 10) a_nil)) (by decide))))) (t_or1 (t_not (t_tru (e_toB (e_allL B.all_ (e_toB (e_new (f_lc rfl hNd (i_seq (q_e (e_var 10))) (blkOk_by (own := [("sign", 15)]) (by kernel_rfl)) (fun s H C cl fp => (g_nm 15 hNd)) (fun s H C cl fp => ts_nil) (fun s H C cl fp => (e_ch (c_le (u64 hr)) (c_le (u64 hr)) b_le b_le (e_toB e_int) (e_toB (e_abs B.abs_ (e_var 15))) (e_toB (e_var 0)))))))))))))) (ss_cons (s_ret e_bl)
    ss_nil) ss_nil)
    (ss_cons (s_set 11 (e_tup (a_cons (e_ix (u1 hr) (e_toB (e_var 10)) e_int) (a_cons (e_ix (u1 hr) (e_toB (e_var 10)) (e_neg e_int)) a_nil))) hNd)
    (ss_cons (s_if (t_bool (t_and (t_cmp (c_nin (u100 hr)) b_nin (e_toB (e_var 11)) (e_toB (e_tup (a_cons (e_tup (a_cons (e_var 5) (a_cons (e_var 6) a_nil))) (a_cons (e_tup (a_cons (e_var 5) (a_cons (e_op o_sub (e_toB e_int) (e_toB (e_var 5))) a_nil))) (a_cons (e_tup (a_cons (e_op o_sub (e_toB e_int) (e_toB (e_var 6))) (a_cons (e_var 6) a_nil))) a_nil))))) (by rfl)) (t_and1 (t_not (t_tru (e_toB (e_call G__law_tangled hr (a_cons (e_var 0) (a_cons (e_var 1) (a_cons (e_var 10) a_nil))) (by decide)))))))) (ss_cons (s_ret e_bl)
    ss_nil) ss_nil)
    (ss_cons (s_if (t_not (t_tru (e_toB (e_call G__law_is hr (a_cons (e_call G_is_reason hr (a_cons (e_var 0) (a_cons (e_var 1) (a_cons (e_var 2) (a_cons (e_var 10) a_nil)))) (by decide)) (a_cons e_bl a_nil)) (by decide))))) (ss_cons (s_ret e_bl)
    ss_nil) ss_nil)
    ss_nil)))) ss_nil)
    (ss_cons (s_set 12 (e_call G_told_choice hr (a_cons (e_call G__law_parcels hr (a_cons (e_var 0) (a_cons (e_var 1) a_nil)) (by decide)) (a_cons (e_call G__law_wishes hr (a_cons (e_var 0) (a_cons (e_var 1) (a_cons (e_tup (a_cons (e_var 5) (a_cons (e_op o_sub (e_toB e_int) (e_toB (e_var 6))) a_nil))) a_nil))) (by decide)) a_nil)) (by decide)) hNd)
    (ss_cons (s_setLc 13 rfl hNd (i_seq (q_e (e_var 3))) (blkOk_by (own := [("row", 14)]) (by kernel_rfl)) (fun s H C cl fp => (g_nm 14 hNd)) (fun s H C cl fp => (ts_one (t_bool (t_and (t_tru (e_toB (e_call G__law_has hr (a_cons (e_var 14) (a_cons (e_var 5) a_nil)) (by decide)))) (t_and1 (t_not (t_tru (e_toB (e_call G__law_has hr (a_cons (e_var 14) (a_cons (e_var 6) a_nil)) (by decide)))))))))) (fun s H C cl fp => (e_var 14)))
    (ss_cons (s_ret (e_call G__law_is hr (a_cons (e_var 12) (a_cons (e_if (t_cmp (c_gt (u64 hr)) b_gt (e_toB (e_len B.len_ (e_toB (e_var 13)))) (e_toB e_int) (nomark _)) (e_tupOf B.tuple_ (e_toB (e_new (f_lc rfl hNd (i_seq (q_e (e_ix (u1 hr) (e_toB (e_var 13)) e_int))) (blkOk_by (own := [("switch", 16)]) (by kernel_rfl)) (fun s H C cl fp => (g_nm 16 hNd)) (fun s H C cl fp => ts_nil) (fun s H C cl fp => (e_op o_sub (e_toB e_int) (e_toB (e_var 16)))))))) e_non) a_nil)) (by decide)))
    ss_nil))))))))))))
theorem sc__law_stuck : FnScope ["n", "rules", "stuck", "sign", "there", "back"] ["n", "rules"] (defScope s__law_stuck) := fnScope_by (by decide +kernel)
theorem ok__law_stuck (B : Bi mg) (G__law_signs : DefOk P w K mg base T "_law_signs" 1 1 F__law_signs) (G__law_alive : DefOk P w K mg base T "_law_alive" 33 3 F__law_alive) {fa : Addr} {fd : FuncData} (Fn : FunD K "_law_stuck" "_law_stuck" (defArgs s__law_stuck) (defBody s__law_stuck) (defScope s__law_stuck) [] [] fa fd) (hm : mg "_law_stuck" = some (.ref fa)) : DefOk P w K mg base T "_law_stuck" 34 2 F__law_stuck := by
  have hNd : (["n", "rules", "stuck", "sign", "there", "back"] : List Str).Nodup := by decide
  exact def_ok (k := 33) Fn hm sc__law_stuck (by decide) (FunD.bindsN (ps := ["n", "rules"]) Fn fun _ _ _ _ _ _ us hl => match us, hl with | [_, _], _ => rfl) fun A outer s H E hr =>
    (ss_cons (s_set 2 e_bl hNd)
    (ss_cons (s_for PassesOwn.never rfl (i_seq (q_e (e_call G__law_signs hr (a_cons (e_var 0) a_nil) (by decide)))) (g_nm 3 hNd) (ss_cons (s_set 4 (e_call G__law_alive hr (a_cons (e_var 0) (a_cons (e_var 1) (a_cons (e_var 3) a_nil))) (by decide)) hNd)
    (ss_cons (s_set 5 (e_call G__law_alive hr (a_cons (e_var 0) (a_cons (e_var 1) (a_cons (e_op o_sub (e_toB e_int) (e_toB (e_var 3))) a_nil))) (by decide)) hNd)
    (ss_cons (s_if (t_bool (t_or (t_isN (e_toB (e_var 4))) (t_or1 (t_isN (e_toB (e_var 5)))))) (ss_cons (s_ret e_non)
    ss_nil) ss_nil)
    (ss_cons (s_set 2 (e_or (e_var 2) (e_or1 (e_and (e_cmp (c_in (u100 hr)) b_in (e_toB (e_op o_sub (e_toB e_int) (e_toB (e_var 3)))) (e_toB (e_var 4)) (by rfl)) (e_and1 (e_cmp (c_in (u100 hr)) b_in (e_toB (e_var 3)) (e_toB (e_var 5)) (by rfl)))))) hNd)
    ss_nil)))))
    (ss_cons (s_ret (e_var 2))
    ss_nil)))
theorem sc__law_asked : FnScope ["n", "rules", "draws", "rows", "parcels", "wishes", "stuck", "tangle", "quarrel", "turn", "some", "fine", "signs", "rule", "spare", "rest", "others", "switch", "at", "other", "row"] ["n", "rules", "draws"] (defScope s__law_asked) := fnScope_by (by decide +kernel)
theorem ok__law_asked (B : Bi mg) (G_are_switches : DefOk P w K mg base T "are_switches" 4 3 F_are_switches) (G_told_switches : DefOk P w K mg base T "told_switches" 5 2 F_told_switches) (G_tangle_of : DefOk P w K mg base T "tangle_of" 3 2 F_tangle_of) (G_is_tangle : DefOk P w K mg base T "is_tangle" 4 3 F_is_tangle) (G_spare_rules : DefOk P w K mg base T "spare_rules" 6 2 F_spare_rules) (G_is_choice : DefOk P w K mg base T "is_choice" 4 3 F_is_choice) (G_told_choice : DefOk P w K mg base T "told_choice" 36 2 F_told_choice) (G_number_of_choices : DefOk P w K mg base T "number_of_choices" 36 2 F_number_of_choices) (G_told_quarrel : DefOk P w K mg base T "told_quarrel" 39 2 F_told_quarrel) (G__law_is : DefOk P w K mg base T "_law_is" 32 2 F__law_is) (G__law_is_integers : DefOk P w K mg base T "_law_is_integers" 2 1 F__law_is_integers) (G__law_signs : DefOk P w K mg base T "_law_signs" 1 1 F__law_signs) (G__law_has : DefOk P w K mg base T "_law_has" 1 2 F__law_has) (G__law_every : DefOk P w K mg base T "_law_every" 2 2 F__law_every) (G__law_parcels : DefOk P w K mg base T "_law_parcels" 2 2 F__law_parcels) (G__law_wishes : DefOk P w K mg base T "_law_wishes" 2 3 F__law_wishes) (G__law_tangled : DefOk P w K mg base T "_law_tangled" 4 3 F__law_tangled) (G__law_reasoned : DefOk P w K mg base T "_law_reasoned" 37 5 F__law_reasoned) (G__law_stuck : DefOk P w K mg base T "_law_stuck" 34 2 F__law_stuck) {fa : Addr} {fd : FuncData} (Fn : FunD K "_law_asked" "_law_asked" (defArgs s__law_asked) (defBody s__law_asked) (defScope s__law_asked) [] [] fa fd) (hm : mg "_law_asked" = some (.ref fa)) : DefOk P w K mg base T "_law_asked" 40 3 F__law_asked := by
  have hNd : (["n", "rules", "draws", "rows", "parcels", "wishes", "stuck", "tangle", "quarrel", "turn", "some", "fine", "signs", "rule", "spare", "rest", "others", "switch", "at", "other", "row"] : List Str).Nodup := by decide
  exact def_ok (k := 39) Fn hm sc__law_asked (by decide) (FunD.bindsN (ps := ["n", "rules", "draws"]) Fn fun _ _ _ _ _ _ us hl => match us, hl with | [_, _, _], _ => rfl) fun A outer s H E hr =>
    (ss_cons (s_set 3 (e_call G__law_every hr (a_cons (e_var 0) (a_cons (e_var 1) a_nil)) (by decide)) hNd)
    (ss_cons (s_set 4 (e_call G__law_parcels hr (a_cons (e_var 0) (a_cons (e_var 1) a_nil)) (by decide)) hNd)
    (ss_cons (s_set 5 (e_call G__law_wishes hr (a_cons (e_var 0) (a_cons (e_var 1) (a_cons (e_tup a_nil) a_nil))) (by decide)) hNd)
    (ss_cons (s_set 6 (e_call G__law_stuck hr (a_cons (e_var 0) (a_cons (e_var 1) a_nil)) (by decide)) hNd)
    (ss_cons (s_if (t_bool (t_or (t_isN (e_toB (e_var 6))) (t_or1 (t_cmp (c_ne (u64 hr)) b_ne (e_toB (e_var 6)) (e_toB (e_cmp (c_eq (u64 hr)) b_eq (e_toB (e_len B.len_ (e_toB (e_var 3)))) (e_toB e_int) (nomark _))) (nomark _))))) (ss_cons (s_ret e_bl)
    ss_nil) ss_nil)
    (ss_cons (s_if (t_bool (t_or (t_not (t_tru (e_toB (e_call G__law_is hr (a_cons (e_call G_told_switches hr (a_cons (e_var 0) (a_cons (e_var 1) a_nil)) (by decide)) (a_cons (e_if (t_cmp (c_gt (u64 hr)) b_gt (e_toB (e_len B.len_ (e_toB (e_var 3)))) (e_toB e_int) (nomark _)) (e_ix (u1 hr) (e_toB (e_var 3)) e_int) e_non) a_nil)) (by decide))))) (t_or1 (t_not (t_tru (e_toB (e_call G__law_is hr (a_cons (e_call G_number_of_choices hr (a_cons (e_var 4) (a_cons (e_var 5) a_nil)) (by decide)) (a_cons (e_len B.len_ (e_toB (e_var 3))) a_nil)) (by decide)))))))) (ss_cons (s_ret e_bl)
    ss_nil) ss_nil)
    (ss_cons (s_if (t_not (t_tru (e_toB (e_call G__law_is hr (a_cons (e_call G_told_choice hr (a_cons (e_var 4) (a_cons (e_var 5) a_nil)) (by decide)) (a_cons (e_if (t_cmp (c_gt (u64 hr)) b_gt (e_toB (e_len B.len_ (e_toB (e_var 3)))) (e_toB e_int) (nomark _)) (e_tupOf B.tuple_ (e_toB (e_new (f_lc rfl hNd (i_seq (q_e (e_ix (u1 hr) (e_toB (e_var 3)) e_int))) (blkOk_by (own := [("switch", 17)]) (by kernel_rfl)) (fun s H C cl fp => (g_nm 17 hNd)) (fun s H C cl fp => ts_nil) (fun s H C cl fp => (e_op o_sub (e_toB e_int) (e_toB (e_var 17)))))))) e_non) a_nil)) (by decide))))) (ss_cons (s_ret e_bl)
    ss_nil) ss_nil)
    (ss_cons (s_set 7 (e_call G_tangle_of hr (a_cons (e_var 0) (a_cons (e_var 1) a_nil)) (by decide)) hNd)
    (ss_cons (s_set 8 (e_call G_told_quarrel hr (a_cons (e_var 4) (a_cons (e_var 5) a_nil)) (by decide)) hNd)
    (ss_cons (s_if (t_bool (t_or (t_cmp (c_eq (u64 hr)) b_eq (e_toB (e_isN (e_toB (e_var 7)))) (e_toB (e_var 6)) (nomark _)) (t_or1 (t_cmp (c_eq (u64 hr)) b_eq (e_toB (e_isN (e_toB (e_var 8)))) (e_toB (e_var 6)) (nomark _))))) (ss_cons (s_ret e_bl)
    ss_nil) ss_nil)
    (ss_cons (s_if (t_bool (t_and (t_tru (e_toB (e_var 6))) (t_and1 (t_bool (t_or (t_not (t_tru (e_toB (e_call G__law_tangled hr (a_cons (e_var 0) (a_cons (e_var 1) (a_cons (e_var 7) a_nil))) (by decide))))) (t_or (t_not (t_tru (e_toB (e_call G__law_is hr (a_cons (e_call G_is_tangle hr (a_cons (e_var 0) (a_cons (e_var 1) (a_cons (e_var 7) a_nil))) (by decide)) (a_cons e_bl a_nil)) (by decide))))) (t_or1 (t_not (t_tru (e_toB (e_call G__law_is_integers hr (a_cons (e_var 8) a_nil) (by decide)))))))))))) (ss_cons (s_ret e_bl)
    ss_nil) ss_nil)
    (ss_cons (s_for PassesOwn.never rfl (i_range1 (q := false) B.range_ e_int) (g_nm 9 hNd) (ss_cons (s_set 10 (e_tupOf B.tuple_ (e_toB (e_new (f_lc rfl hNd (i_range1 (q := false) B.range_ (e_var 0)) (blkOk_by (own := [("at", 18)]) (by kernel_rfl)) (fun s H C cl fp => (g_nm 18 hNd)) (fun s H C cl fp => ts_nil) (fun s H C cl fp => (e_op o_mod (e_toB (e_op o_fdiv (e_toB (e_intOf B.int_ (e_ix (u1 hr) (e_toB (e_var 2)) (e_var 9)))) (e_toB (e_ix (u1 hr) (e_toB (e_tup (a_cons e_int (a_cons e_int (a_cons e_int (a_cons e_int a_nil)))))) (e_var 18))))) (e_toB e_int))))))) hNd)
    (ss_cons (s_set 11 (e_cmp (c_in (u100 hr)) b_in (e_toB (e_var 10)) (e_toB (e_var 3)) (by rfl)) hNd)
    (ss_cons (s_if (t_bool (t_or (t_not (t_tru (e_toB (e_call G__law_is hr (a_cons (e_call G_are_switches hr (a_cons (e_var 0) (a_cons (e_var 1) (a_cons (e_var 10) a_nil))) (by decide)) (a_cons (e_var 11) a_nil)) (by decide))))) (t_or1 (t_not (t_tru (e_toB (e_call G__law_is hr (a_cons (e_call G_is_choice hr (a_cons (e_var 4) (a_cons (e_var 5) (a_cons (e_tupOf B.tuple_ (e_toB (e_new (f_lc rfl hNd (i_seq (q_e (e_var 10))) (blkOk_by (own := [("switch", 17)]) (by kernel_rfl)) (fun s H C cl fp => (g_nm 17 hNd)) (fun s H C cl fp => ts_nil) (fun s H C cl fp => (e_op o_sub (e_toB e_int) (e_toB (e_var 17)))))))) a_nil))) (by decide)) (a_cons (e_var 11) a_nil)) (by decide)))))))) (ss_cons (s_ret e_bl)
    ss_nil) ss_nil)
    (ss_cons (s_set 12 (e_call G__law_signs hr (a_cons (e_var 0) a_nil) (by decide)) hNd)
    (ss_cons (s_set 13 (e_tup (a_cons (e_ix (u1 hr) (e_toB (e_var 12)) (e_op o_mod (e_toB (e_intOf B.int_ (e_ix (u1 hr) (e_toB (e_var 2)) (e_op o_add (e_toB e_int) (e_toB (e_var 9)))))) (e_toB (e_op o_mulI (e_toB e_int) (e_toB (e_var 0)))))) (a_cons (e_ix (u1 hr) (e_toB (e_var 12)) (e_op o_mod (e_toB (e_op o_fdiv (e_toB (e_intOf B.int_ (e_ix (u1 hr) (e_toB (e_var 2)) (e_op o_add (e_toB e_int) (e_toB (e_var 9)))))) (e_toB e_int))) (e_toB (e_op o_mulI (e_toB e_int) (e_toB (e_var 0)))))) a_nil))) hNd)
    (ss_cons (s_if (t_not (t_tru (e_toB (e_call G__law_reasoned hr (a_cons (e_var 0) (a_cons (e_var 1) (a_cons (e_var 13) (a_cons (e_var 3) (a_cons (e_var 6) a_nil))))) (by decide))))) (ss_cons (s_ret e_bl)
    ss_nil) ss_nil)
    ss_nil)))))))
    (ss_cons (s_own 14 (f_lst a_nil) hNd)
    (ss_cons (s_for PassesOwn.never rfl (i_seq (q_e (e_var 1))) (g_nm 13 hNd) (ss_cons (s_set 15 (e_tupOf B.tuple_ (e_toB (e_new (f_lc rfl hNd (i_seq (q_e (e_var 1))) (blkOk_by (own := [("other", 19)]) (by kernel_rfl)) (fun s H C cl fp => (g_nm 19 hNd)) (fun s H C cl fp => (ts_one (t_cmp (c_ne (u64 hr)) b_ne (e_toB (e_var 19)) (e_toB (e_var 13)) (nomark _)))) (fun s H C cl fp => (e_var 19)))))) hNd)
    (ss_cons (s_set 16 (e_call G__law_every hr (a_cons (e_var 0) (a_cons (e_var 15) a_nil)) (by decide)) hNd)
    (ss_cons (s_if (t_tru (e_toB (e_allL B.all_ (e_toB (e_new (f_lc rfl hNd (i_seq (q_e (e_var 16))) (blkOk_by (own := [("row", 20)]) (by kernel_rfl)) (fun s H C cl fp => (g_nm 20 hNd)) (fun s H C cl fp => ts_nil) (fun s H C cl fp => (e_or (e_not (e_toB (e_call G__law_has hr (a_cons (e_var 20) (a_cons (e_ix (u1 hr) (e_toB (e_var 13)) e_int) a_nil)) (by decide)))) (e_or1 (e_call G__law_has hr (a_cons (e_var 20) (a_cons (e_ix (u1 hr) (e_toB (e_var 13)) e_int) a_nil)) (by decide))))))))))) (ss_cons (s_app 14 (e_var 13))
    ss_nil) ss_nil)
    ss_nil))))
    (ss_cons (s_ret (e_call G__law_is hr (a_cons (e_call G_spare_rules hr (a_cons (e_var 0) (a_cons (e_var 1) a_nil)) (by decide)) (a_cons (e_tupOf B.tuple_ (e_own 14)) a_nil)) (by decide)))
    ss_nil)))))))))))))))
theorem sc_law : FnScope ["script", "draws", "k", "part", "n", "signs", "rules", "at"] ["script"] (defScope s_law) := fnScope_by (by decide +kernel)
theorem ok_law (B : Bi mg) (G__law_cell : DefOk P w K mg base T "_law_cell" 1 2 F__law_cell) (G__law_draws : DefOk P w K mg base T "_law_draws" 1 2 F__law_draws) (G__law_signs : DefOk P w K mg base T "_law_signs" 1 1 F__law_signs) (G__law_asked : DefOk P w K mg base T "_law_asked" 40 3 F__law_asked) {fa : Addr} {fd : FuncData} (Fn : FunD K "law" "law" (defArgs s_law) (defBody s_law) (defScope s_law) [] [] fa fd) : FnOk P w K mg base CX0 41 fa fd ["script"] (spD K T 1 F_law) := by
  have hNd : (["script", "draws", "k", "part", "n", "signs", "rules", "at"] : List Str).Nodup := by decide
  exact fn_ok (k := 40) Fn sc_law (by decide) fun A outer s H E hr =>
    (ss_cons (s_set 1 (e_call G__law_draws hr (a_cons (e_call G__law_cell hr (a_cons (e_var 0) (a_cons e_int a_nil)) (by decide)) (a_cons e_int a_nil)) (by decide)) hNd)
    (ss_cons (s_if (t_not (t_tru (e_toB (e_call G__law_asked hr (a_cons e_int (a_cons (e_tup (a_cons (e_tup (a_cons (e_op o_sub (e_toB e_int) (e_toB e_int)) (a_cons (e_op o_sub (e_toB e_int) (e_toB e_int)) a_nil))) (a_cons (e_tup (a_cons (e_op o_sub (e_toB e_int) (e_toB e_int)) (a_cons e_int a_nil))) (a_cons (e_tup (a_cons e_int (a_cons (e_op o_sub (e_toB e_int) (e_toB e_int)) a_nil))) (a_cons (e_tup (a_cons e_int (a_cons e_int a_nil))) a_nil))))) (a_cons (e_var 1) a_nil))) (by decide))))) (ss_cons (s_ret e_bl)
    ss_nil) ss_nil)
    (ss_cons (s_if (t_not (t_tru (e_toB (e_call G__law_asked hr (a_cons e_int (a_cons (e_tup (a_cons (e_tup (a_cons (e_op o_sub (e_toB e_int) (e_toB e_int)) (a_cons e_int a_nil))) (a_cons (e_tup (a_cons e_int (a_cons e_int a_nil))) (a_cons (e_tup (a_cons e_int (a_cons e_int a_nil))) a_nil)))) (a_cons (e_cut (e_toB (e_var 1)) (so_some e_int) so_none) a_nil))) (by decide))))) (ss_cons (s_ret e_bl)
    ss_nil) ss_nil)
    (ss_cons (s_for PassesOwn.never rfl (i_range1 (q := false) B.range_ e_int) (g_nm 2 hNd) (ss_cons (s_set 3 (e_call G__law_draws hr (a_cons (e_call G__law_cell hr (a_cons (e_var 0) (a_cons (e_op o_add (e_toB e_int) (e_toB (e_var 2))) a_nil)) (by decide)) (a_cons e_int a_nil)) (by decide)) hNd)
    (ss_cons (s_set 4 (e_ix (u1 hr) (e_toB (e_tup (a_cons e_int (a_cons e_int (a_cons e_int (a_cons e_int a_nil)))))) (e_op o_mod (e_toB (e_intOf B.int_ (e_ix (u1 hr) (e_toB (e_var 1)) (e_op o_add (e_toB e_int) (e_toB (e_var 2)))))) (e_toB e_int))) hNd)
    (ss_cons (s_set 5 (e_call G__law_signs hr (a_cons (e_var 4) a_nil) (by decide)) hNd)
    (ss_cons (s_own 6 (f_lst a_nil) hNd)
    (ss_cons (s_for PassesOwn.never rfl (i_range1 (q := false) B.range_ (e_ix (u1 hr) (e_toB (e_tup (a_cons e_int (a_cons e_int (a_cons e_int (a_cons e_int (a_cons e_int a_nil))))))) (e_op o_mod (e_toB (e_intOf B.int_ (e_ix (u1 hr) (e_toB (e_var 1)) (e_op o_add (e_toB e_int) (e_toB (e_var 2)))))) (e_toB e_int)))) (g_nm 7 hNd) (ss_cons (s_app 6 (e_tup (a_cons (e_ix (u1 hr) (e_toB (e_var 5)) (e_op o_mod (e_toB (e_intOf B.int_ (e_ix (u1 hr) (e_toB (e_var 3)) (e_var 7)))) (e_toB (e_op o_mulI (e_toB e_int) (e_toB (e_var 4)))))) (a_cons (e_ix (u1 hr) (e_toB (e_var 5)) (e_op o_mod (e_toB (e_op o_fdiv (e_toB (e_intOf B.int_ (e_ix (u1 hr) (e_toB (e_var 3)) (e_var 7)))) (e_toB e_int))) (e_toB (e_op o_mulI (e_toB e_int) (e_toB (e_var 4)))))) a_nil))))
    ss_nil))
    (ss_cons (s_if (t_not (t_tru (e_toB (e_call G__law_asked hr (a_cons (e_var 4) (a_cons (e_tupOf B.tuple_ (e_toB (e_new (f_sortSetA (u64 hr) B.sorted_ B.set_ (e_own 6))))) (a_cons (e_cut (e_toB (e_var 1)) (so_some (e_op o_add (e_toB (e_var 2)) (e_toB e_int))) so_none) a_nil))) (by decide))))) (ss_cons (s_ret e_bl)
    ss_nil) ss_nil)
    ss_nil)))))))
    (ss_cons (s_ret e_bl)
    ss_nil)))))
end
/-! ### the head and the law -/
theorem law_ok {w : World} {K : PySem.W.Frag} {h : Heap} {mg : Str → Option Value} {f : Addr} (X : K.In h) (G : h.Ns mainGlobals mg) (hfa : mg ("law" : Str) = some (.ref f)) (c : He.SaysX fa fn [] tf (fun _ => true) w h K)
    (hF : ∀ ns : List Int, ns.length ≤ 63 → F_law [.list (ns.map .int)] = some (.bool true)) : LamX.LawAtS PySem.Challenge.rw_runwarden_k94_whole_rules_as_parcels w K CX0 41 63 "script" mg f h := by
  have cd := c.t.d
  have B : Bi mg := ⟨He.free_ok X G (cd.fact 47 (f := .free "abs") rfl), He.free_ok X G (cd.fact 48 (f := .free "all") rfl), He.free_ok X G (cd.fact 49 (f := .free "bool") rfl), He.free_ok X G (cd.fact 50 (f := .free "int") rfl), He.free_ok X G (cd.fact 51 (f := .free "isinstance") rfl), He.free_ok X G (cd.fact 52 (f := .free "len") rfl), He.free_ok X G (cd.fact 53 (f := .free "range") rfl), He.free_ok X G (cd.fact 54 (f := .free "set") rfl), He.free_ok X G (cd.fact 55 (f := .free "sorted") rfl), He.free_ok X G (cd.fact 56 (f := .free "str") rfl), He.free_ok X G (cd.fact 57 (f := .free "tuple") rfl), He.free_ok X G (cd.fact 58 (f := .free "zip") rfl)⟩
  obtain ⟨fd0, D0⟩ := cd.def_ 0 (d := dD "steps_from" s_steps_from) rfl
  obtain ⟨fd1, D1⟩ := cd.def_ 1 (d := dD "walk_between" s_walk_between) rfl
  obtain ⟨fd2, D2⟩ := cd.def_ 2 (d := dD "is_walk" s_is_walk) rfl
  obtain ⟨fd3, D3⟩ := cd.def_ 3 (d := dD "holds_in" s_holds_in) rfl
  obtain ⟨fd4, D4⟩ := cd.def_ 4 (d := dD "obeys" s_obeys) rfl
  obtain ⟨fd5, D5⟩ := cd.def_ 5 (d := dD "are_switches" s_are_switches) rfl
  obtain ⟨fd6, D6⟩ := cd.def_ 6 (d := dD "all_switches" s_all_switches) rfl
  obtain ⟨fd7, D7⟩ := cd.def_ 7 (d := dD "told_switches" s_told_switches) rfl
  obtain ⟨fd8, D8⟩ := cd.def_ 8 (d := dD "tangle_of" s_tangle_of) rfl
  obtain ⟨fd9, D9⟩ := cd.def_ 9 (d := dD "is_tangle" s_is_tangle) rfl
  obtain ⟨fd10, D10⟩ := cd.def_ 10 (d := dD "ends_for" s_ends_for) rfl
  obtain ⟨fd11, D11⟩ := cd.def_ 11 (d := dD "reason_for" s_reason_for) rfl
  obtain ⟨fd12, D12⟩ := cd.def_ 12 (d := dD "does_follow" s_does_follow) rfl
  obtain ⟨fd13, D13⟩ := cd.def_ 13 (d := dD "is_reason" s_is_reason) rfl
  obtain ⟨fd14, D14⟩ := cd.def_ 14 (d := dD "without" s_without) rfl
  obtain ⟨fd15, D15⟩ := cd.def_ 15 (d := dD "spare_rules" s_spare_rules) rfl
  obtain ⟨fd16, D16⟩ := cd.def_ 16 (d := dD "reached_from" s_reached_from) rfl
  obtain ⟨fd17, D17⟩ := cd.def_ 17 (d := dD "alive_cells" s_alive_cells) rfl
  obtain ⟨fd18, D18⟩ := cd.def_ 18 (d := dD "all_sets" s_all_sets) rfl
  obtain ⟨fd19, D19⟩ := cd.def_ 19 (d := dD "are_met" s_are_met) rfl
  obtain ⟨fd20, D20⟩ := cd.def_ 20 (d := dD "is_choice" s_is_choice) rfl
  obtain ⟨fd21, D21⟩ := cd.def_ 21 (d := dD "choices_from" s_choices_from) rfl
  obtain ⟨fd22, D22⟩ := cd.def_ 22 (d := dD "told_choice" s_told_choice) rfl
  obtain ⟨fd23, D23⟩ := cd.def_ 23 (d := dD "number_of_choices" s_number_of_choices) rfl
  obtain ⟨fd24, D24⟩ := cd.def_ 24 (d := dD "has_choice" s_has_choice) rfl
  obtain ⟨fd25, D25⟩ := cd.def_ 25 (d := dD "told_quarrel" s_told_quarrel) rfl
  obtain ⟨fd26, D26⟩ := cd.def_ 26 (d := dD "_law_cell" s__law_cell) rfl
  obtain ⟨fd27, D27⟩ := cd.def_ 27 (d := dD "_law_draws" s__law_draws) rfl
  obtain ⟨fd28, D28⟩ := cd.def_ 28 (d := dD "_law_is_integer" s__law_is_integer) rfl
  obtain ⟨fd29, D29⟩ := cd.def_ 29 (d := dD "_law_is" s__law_is) rfl
  obtain ⟨fd30, D30⟩ := cd.def_ 30 (d := dD "_law_is_integers" s__law_is_integers) rfl
  obtain ⟨fd31, D31⟩ := cd.def_ 31 (d := dD "_law_place" s__law_place) rfl
  obtain ⟨fd32, D32⟩ := cd.def_ 32 (d := dD "_law_signs" s__law_signs) rfl
  obtain ⟨fd33, D33⟩ := cd.def_ 33 (d := dD "_law_leads" s__law_leads) rfl
  obtain ⟨fd34, D34⟩ := cd.def_ 34 (d := dD "_law_reach" s__law_reach) rfl
  obtain ⟨fd35, D35⟩ := cd.def_ 35 (d := dD "_law_alive" s__law_alive) rfl
  obtain ⟨fd36, D36⟩ := cd.def_ 36 (d := dD "_law_every" s__law_every) rfl
  obtain ⟨fd37, D37⟩ := cd.def_ 37 (d := dD "_law_has" s__law_has) rfl
  obtain ⟨fd38, D38⟩ := cd.def_ 38 (d := dD "_law_version" s__law_version) rfl
  obtain ⟨fd39, D39⟩ := cd.def_ 39 (d := dD "_law_parcels" s__law_parcels) rfl
  obtain ⟨fd40, D40⟩ := cd.def_ 40 (d := dD "_law_wishes" s__law_wishes) rfl
  obtain ⟨fd41, D41⟩ := cd.def_ 41 (d := dD "_law_walk" s__law_walk) rfl
  obtain ⟨fd42, D42⟩ := cd.def_ 42 (d := dD "_law_tangled" s__law_tangled) rfl
  obtain ⟨fd43, D43⟩ := cd.def_ 43 (d := dD "_law_reasoned" s__law_reasoned) rfl
  obtain ⟨fd44, D44⟩ := cd.def_ 44 (d := dD "_law_stuck" s__law_stuck) rfl
  obtain ⟨fd45, D45⟩ := cd.def_ 45 (d := dD "_law_asked" s__law_asked) rfl
  obtain ⟨fd46, D46⟩ := cd.def_ 46 (d := dD "law" s_law) rfl
  have e := hfa.symm.trans (He.glo_ok X G (cd.fact 46 (f := .glo "law") rfl))
  cases e
  refine law_at X c (fun s u => (FunD.bindsA (ps := ["script"]) D46 fun _ _ _ _ _ _ us hl => match us, hl with | [_], _ => rfl) s [u] rfl) hF fun base bX bG TB => ?_
  have G_steps_from := ok_steps_from (P := PySem.W.OpenLaw.prog PySem.Challenge.rw_runwarden_k94_whole_rules_as_parcels) (w := w) (base := base) (T := (tf.map (He.cT K)).map (·.2)) B D0 (He.glo_ok X G (cd.fact 0 (f := .glo "steps_from") rfl))
  have G_walk_between := ok_walk_between (P := PySem.W.OpenLaw.prog PySem.Challenge.rw_runwarden_k94_whole_rules_as_parcels) (w := w) (base := base) (T := (tf.map (He.cT K)).map (·.2)) B G_steps_from D1 (He.glo_ok X G (cd.fact 1 (f := .glo "walk_between") rfl))
  have G_is_walk := ok_is_walk (P := PySem.W.OpenLaw.prog PySem.Challenge.rw_runwarden_k94_whole_rules_as_parcels) (w := w) (base := base) (T := (tf.map (He.cT K)).map (·.2)) B G_steps_from D2 (He.glo_ok X G (cd.fact 2 (f := .glo "is_walk") rfl)) (tab_in (p := ("is_walk", none)) (by decide)) (TB ("is_walk", none) (by decide)) (code_of D2)
  have G_holds_in := ok_holds_in (P := PySem.W.OpenLaw.prog PySem.Challenge.rw_runwarden_k94_whole_rules_as_parcels) (w := w) (base := base) (T := (tf.map (He.cT K)).map (·.2)) B D3 (He.glo_ok X G (cd.fact 3 (f := .glo "holds_in") rfl))
  have G_obeys := ok_obeys (P := PySem.W.OpenLaw.prog PySem.Challenge.rw_runwarden_k94_whole_rules_as_parcels) (w := w) (base := base) (T := (tf.map (He.cT K)).map (·.2)) B G_holds_in D4 (He.glo_ok X G (cd.fact 4 (f := .glo "obeys") rfl))
  have G_are_switches := ok_are_switches (P := PySem.W.OpenLaw.prog PySem.Challenge.rw_runwarden_k94_whole_rules_as_parcels) (w := w) (base := base) (T := (tf.map (He.cT K)).map (·.2)) B G_obeys D5 (He.glo_ok X G (cd.fact 5 (f := .glo "are_switches") rfl)) (tab_in (p := ("are_switches", none)) (by decide)) (TB ("are_switches", none) (by decide)) (code_of D5)
  have G_all_switches := ok_all_switches (P := PySem.W.OpenLaw.prog PySem.Challenge.rw_runwarden_k94_whole_rules_as_parcels) (w := w) (base := base) (T := (tf.map (He.cT K)).map (·.2)) B D6 (He.glo_ok X G (cd.fact 6 (f := .glo "all_switches") rfl))
  have G_told_switches := ok_told_switches (P := PySem.W.OpenLaw.prog PySem.Challenge.rw_runwarden_k94_whole_rules_as_parcels) (w := w) (base := base) (T := (tf.map (He.cT K)).map (·.2)) B G_are_switches G_all_switches D7 (He.glo_ok X G (cd.fact 7 (f := .glo "told_switches") rfl))
  have G_tangle_of := ok_tangle_of (P := PySem.W.OpenLaw.prog PySem.Challenge.rw_runwarden_k94_whole_rules_as_parcels) (w := w) (base := base) (T := (tf.map (He.cT K)).map (·.2)) B G_walk_between D8 (He.glo_ok X G (cd.fact 8 (f := .glo "tangle_of") rfl))
  have G_is_tangle := ok_is_tangle (P := PySem.W.OpenLaw.prog PySem.Challenge.rw_runwarden_k94_whole_rules_as_parcels) (w := w) (base := base) (T := (tf.map (He.cT K)).map (·.2)) B G_is_walk D9 (He.glo_ok X G (cd.fact 9 (f := .glo "is_tangle") rfl))
  have G_ends_for := ok_ends_for (P := PySem.W.OpenLaw.prog PySem.Challenge.rw_runwarden_k94_whole_rules_as_parcels) (w := w) (base := base) (T := (tf.map (He.cT K)).map (·.2)) B D10 (He.glo_ok X G (cd.fact 10 (f := .glo "ends_for") rfl))
  have G_reason_for := ok_reason_for (P := PySem.W.OpenLaw.prog PySem.Challenge.rw_runwarden_k94_whole_rules_as_parcels) (w := w) (base := base) (T := (tf.map (He.cT K)).map (·.2)) B G_walk_between G_tangle_of G_ends_for D11 (He.glo_ok X G (cd.fact 11 (f := .glo "reason_for") rfl))
  have G_does_follow := ok_does_follow (P := PySem.W.OpenLaw.prog PySem.Challenge.rw_runwarden_k94_whole_rules_as_parcels) (w := w) (base := base) (T := (tf.map (He.cT K)).map (·.2)) B G_reason_for D12 (He.glo_ok X G (cd.fact 12 (f := .glo "does_follow") rfl))
  have G_is_reason := ok_is_reason (P := PySem.W.OpenLaw.prog PySem.Challenge.rw_runwarden_k94_whole_rules_as_parcels) (w := w) (base := base) (T := (tf.map (He.cT K)).map (·.2)) B G_is_walk G_is_tangle G_ends_for D13 (He.glo_ok X G (cd.fact 13 (f := .glo "is_reason") rfl))
  have G_without := ok_without (P := PySem.W.OpenLaw.prog PySem.Challenge.rw_runwarden_k94_whole_rules_as_parcels) (w := w) (base := base) (T := (tf.map (He.cT K)).map (·.2)) B D14 (He.glo_ok X G (cd.fact 14 (f := .glo "without") rfl))
  have G_spare_rules := ok_spare_rules (P := PySem.W.OpenLaw.prog PySem.Challenge.rw_runwarden_k94_whole_rules_as_parcels) (w := w) (base := base) (T := (tf.map (He.cT K)).map (·.2)) B G_does_follow G_without D15 (He.glo_ok X G (cd.fact 15 (f := .glo "spare_rules") rfl))
  have G_reached_from := ok_reached_from (P := PySem.W.OpenLaw.prog PySem.Challenge.rw_runwarden_k94_whole_rules_as_parcels) (w := w) (base := base) (T := (tf.map (He.cT K)).map (·.2)) B D16 (He.glo_ok X G (cd.fact 16 (f := .glo "reached_from") rfl))
  have G_alive_cells := ok_alive_cells (P := PySem.W.OpenLaw.prog PySem.Challenge.rw_runwarden_k94_whole_rules_as_parcels) (w := w) (base := base) (T := (tf.map (He.cT K)).map (·.2)) B G_reached_from D17 (He.glo_ok X G (cd.fact 17 (f := .glo "alive_cells") rfl))
  have G_all_sets := ok_all_sets (P := PySem.W.OpenLaw.prog PySem.Challenge.rw_runwarden_k94_whole_rules_as_parcels) (w := w) (base := base) (T := (tf.map (He.cT K)).map (·.2)) B D18 (He.glo_ok X G (cd.fact 18 (f := .glo "all_sets") rfl))
  have G_are_met := ok_are_met (P := PySem.W.OpenLaw.prog PySem.Challenge.rw_runwarden_k94_whole_rules_as_parcels) (w := w) (base := base) (T := (tf.map (He.cT K)).map (·.2)) B D19 (He.glo_ok X G (cd.fact 19 (f := .glo "are_met") rfl)) (tab_in (p := ("are_met", none)) (by decide)) (TB ("are_met", none) (by decide)) (code_of D19)
  have G_is_choice := ok_is_choice (P := PySem.W.OpenLaw.prog PySem.Challenge.rw_runwarden_k94_whole_rules_as_parcels) (w := w) (base := base) (T := (tf.map (He.cT K)).map (·.2)) B G_are_met D20 (He.glo_ok X G (cd.fact 20 (f := .glo "is_choice") rfl)) (tab_in (p := ("is_choice", none)) (by decide)) (TB ("is_choice", none) (by decide)) (code_of D20)
  have G_choices_from := ok_choices_from (P := PySem.W.OpenLaw.prog PySem.Challenge.rw_runwarden_k94_whole_rules_as_parcels) (w := w) (base := base) (T := (tf.map (He.cT K)).map (·.2)) B G_is_choice D21 (He.glo_ok X G (cd.fact 21 (f := .glo "choices_from") rfl))
  have G_told_choice := ok_told_choice (P := PySem.W.OpenLaw.prog PySem.Challenge.rw_runwarden_k94_whole_rules_as_parcels) (w := w) (base := base) (T := (tf.map (He.cT K)).map (·.2)) B G_choices_from D22 (He.glo_ok X G (cd.fact 22 (f := .glo "told_choice") rfl))
  have G_number_of_choices := ok_number_of_choices (P := PySem.W.OpenLaw.prog PySem.Challenge.rw_runwarden_k94_whole_rules_as_parcels) (w := w) (base := base) (T := (tf.map (He.cT K)).map (·.2)) B G_choices_from D23 (He.glo_ok X G (cd.fact 23 (f := .glo "number_of_choices") rfl))
  have G_has_choice := ok_has_choice (P := PySem.W.OpenLaw.prog PySem.Challenge.rw_runwarden_k94_whole_rules_as_parcels) (w := w) (base := base) (T := (tf.map (He.cT K)).map (·.2)) B G_told_choice D24 (He.glo_ok X G (cd.fact 24 (f := .glo "has_choice") rfl))
  have G_told_quarrel := ok_told_quarrel (P := PySem.W.OpenLaw.prog PySem.Challenge.rw_runwarden_k94_whole_rules_as_parcels) (w := w) (base := base) (T := (tf.map (He.cT K)).map (·.2)) B G_all_sets G_has_choice D25 (He.glo_ok X G (cd.fact 25 (f := .glo "told_quarrel") rfl)) (tab_in (p := ("told_quarrel", none)) (by decide)) (TB ("told_quarrel", none) (by decide)) (code_of D25)
  have G__law_cell := ok__law_cell (P := PySem.W.OpenLaw.prog PySem.Challenge.rw_runwarden_k94_whole_rules_as_parcels) (w := w) (base := base) (T := (tf.map (He.cT K)).map (·.2)) B D26 (He.glo_ok X G (cd.fact 26 (f := .glo "_law_cell") rfl))
  have G__law_draws := ok__law_draws (P := PySem.W.OpenLaw.prog PySem.Challenge.rw_runwarden_k94_whole_rules_as_parcels) (w := w) (base := base) (T := (tf.map (He.cT K)).map (·.2)) B D27 (He.glo_ok X G (cd.fact 27 (f := .glo "_law_draws") rfl))
  have G__law_is_integer := ok__law_is_integer (P := PySem.W.OpenLaw.prog PySem.Challenge.rw_runwarden_k94_whole_rules_as_parcels) (w := w) (base := base) (T := (tf.map (He.cT K)).map (·.2)) B D28 (He.glo_ok X G (cd.fact 28 (f := .glo "_law_is_integer") rfl))
  have G__law_is := ok__law_is (P := PySem.W.OpenLaw.prog PySem.Challenge.rw_runwarden_k94_whole_rules_as_parcels) (w := w) (base := base) (T := (tf.map (He.cT K)).map (·.2)) B G__law_is_integer D29 (He.glo_ok X G (cd.fact 29 (f := .glo "_law_is") rfl))
  have G__law_is_integers := ok__law_is_integers (P := PySem.W.OpenLaw.prog PySem.Challenge.rw_runwarden_k94_whole_rules_as_parcels) (w := w) (base := base) (T := (tf.map (He.cT K)).map (·.2)) B G__law_is_integer D30 (He.glo_ok X G (cd.fact 30 (f := .glo "_law_is_integers") rfl))
  have G__law_place := ok__law_place (P := PySem.W.OpenLaw.prog PySem.Challenge.rw_runwarden_k94_whole_rules_as_parcels) (w := w) (base := base) (T := (tf.map (He.cT K)).map (·.2)) B D31 (He.glo_ok X G (cd.fact 31 (f := .glo "_law_place") rfl))
  have G__law_signs := ok__law_signs (P := PySem.W.OpenLaw.prog PySem.Challenge.rw_runwarden_k94_whole_rules_as_parcels) (w := w) (base := base) (T := (tf.map (He.cT K)).map (·.2)) B D32 (He.glo_ok X G (cd.fact 32 (f := .glo "_law_signs") rfl))
  have G__law_leads := ok__law_leads (P := PySem.W.OpenLaw.prog PySem.Challenge.rw_runwarden_k94_whole_rules_as_parcels) (w := w) (base := base) (T := (tf.map (He.cT K)).map (·.2)) B D33 (He.glo_ok X G (cd.fact 33 (f := .glo "_law_leads") rfl))
  have G__law_reach := ok__law_reach (P := PySem.W.OpenLaw.prog PySem.Challenge.rw_runwarden_k94_whole_rules_as_parcels) (w := w) (base := base) (T := (tf.map (He.cT K)).map (·.2)) B G__law_leads D34 (He.glo_ok X G (cd.fact 34 (f := .glo "_law_reach") rfl))
  have G__law_alive := ok__law_alive (P := PySem.W.OpenLaw.prog PySem.Challenge.rw_runwarden_k94_whole_rules_as_parcels) (w := w) (base := base) (T := (tf.map (He.cT K)).map (·.2)) B G_alive_cells G__law_is G__law_place G__law_signs G__law_leads G__law_reach D35 (He.glo_ok X G (cd.fact 35 (f := .glo "_law_alive") rfl))
  have G__law_has := ok__law_has (P := PySem.W.OpenLaw.prog PySem.Challenge.rw_runwarden_k94_whole_rules_as_parcels) (w := w) (base := base) (T := (tf.map (He.cT K)).map (·.2)) B D37 (He.glo_ok X G (cd.fact 37 (f := .glo "_law_has") rfl))
  have G__law_every := ok__law_every (P := PySem.W.OpenLaw.prog PySem.Challenge.rw_runwarden_k94_whole_rules_as_parcels) (w := w) (base := base) (T := (tf.map (He.cT K)).map (·.2)) B G__law_has D36 (He.glo_ok X G (cd.fact 36 (f := .glo "_law_every") rfl))
  have G__law_version := ok__law_version (P := PySem.W.OpenLaw.prog PySem.Challenge.rw_runwarden_k94_whole_rules_as_parcels) (w := w) (base := base) (T := (tf.map (He.cT K)).map (·.2)) B D38 (He.glo_ok X G (cd.fact 38 (f := .glo "_law_version") rfl))
  have G__law_parcels := ok__law_parcels (P := PySem.W.OpenLaw.prog PySem.Challenge.rw_runwarden_k94_whole_rules_as_parcels) (w := w) (base := base) (T := (tf.map (He.cT K)).map (·.2)) B G__law_leads G__law_version D39 (He.glo_ok X G (cd.fact 39 (f := .glo "_law_parcels") rfl))
  have G__law_wishes := ok__law_wishes (P := PySem.W.OpenLaw.prog PySem.Challenge.rw_runwarden_k94_whole_rules_as_parcels) (w := w) (base := base) (T := (tf.map (He.cT K)).map (·.2)) B G__law_leads G__law_version D40 (He.glo_ok X G (cd.fact 40 (f := .glo "_law_wishes") rfl))
  have G__law_walk := ok__law_walk (P := PySem.W.OpenLaw.prog PySem.Challenge.rw_runwarden_k94_whole_rules_as_parcels) (w := w) (base := base) (T := (tf.map (He.cT K)).map (·.2)) B G__law_is_integers G__law_leads D41 (He.glo_ok X G (cd.fact 41 (f := .glo "_law_walk") rfl))
  have G__law_tangled := ok__law_tangled (P := PySem.W.OpenLaw.prog PySem.Challenge.rw_runwarden_k94_whole_rules_as_parcels) (w := w) (base := base) (T := (tf.map (He.cT K)).map (·.2)) B G__law_walk D42 (He.glo_ok X G (cd.fact 42 (f := .glo "_law_tangled") rfl))
  have G__law_reasoned := ok__law_reasoned (P := PySem.W.OpenLaw.prog PySem.Challenge.rw_runwarden_k94_whole_rules_as_parcels) (w := w) (base := base) (T := (tf.map (He.cT K)).map (·.2)) B G_reason_for G_does_follow G_is_reason G_told_choice G__law_is G__law_alive G__law_has G__law_parcels G__law_wishes G__law_walk G__law_tangled D43 (He.glo_ok X G (cd.fact 43 (f := .glo "_law_reasoned") rfl))
  have G__law_stuck := ok__law_stuck (P := PySem.W.OpenLaw.prog PySem.Challenge.rw_runwarden_k94_whole_rules_as_parcels) (w := w) (base := base) (T := (tf.map (He.cT K)).map (·.2)) B G__law_signs G__law_alive D44 (He.glo_ok X G (cd.fact 44 (f := .glo "_law_stuck") rfl))
  have G__law_asked := ok__law_asked (P := PySem.W.OpenLaw.prog PySem.Challenge.rw_runwarden_k94_whole_rules_as_parcels) (w := w) (base := base) (T := (tf.map (He.cT K)).map (·.2)) B G_are_switches G_told_switches G_tangle_of G_is_tangle G_spare_rules G_is_choice G_told_choice G_number_of_choices G_told_quarrel G__law_is G__law_is_integers G__law_signs G__law_has G__law_every G__law_parcels G__law_wishes G__law_tangled G__law_reasoned G__law_stuck D45 (He.glo_ok X G (cd.fact 45 (f := .glo "_law_asked") rfl))
  exact ok_law B G__law_cell G__law_draws G__law_signs G__law_asked D46
end Rwd
open PySem PySem.W PySem.Calls PyProof.Rows L2
theorem Rwd.holds_of (hF : ∀ ns : List Int, ns.length ≤ 63 → Dm.F_law [.list (ns.map .int)] = some (.bool true)) : PySem.Challenge.rw_runwarden_k94_whole_rules_as_parcels.Holds := by
  w_on; o_law
  refine HandSHeadRun.head_any (r := Rwd.R) (q := view Rwd.R.prog [52]) (H := Rwd.hk) (ob := Rwd.ob) (M := 3000) (loose := Rwd.loose) (d := HandSHeadRun.topDef Rwd.R.prog 52) (kwd := []) Rwd.ob_eq
    (by kernel_rfl) (fun s => by kernel_rfl) Rwd.run (by kernel_rfl) (by kernel_rfl) (by kernel_rfl) (by rfl) (by first | assumption | decide +kernel) (by decide +kernel) ⟨rfl, rfl, rfl, rfl, rfl, by decide +kernel⟩ ?hw ?hc
  case hw => w_witness2
  case hc =>
    refine LamX.walk_ofTsE (l := PySem.Challenge.rw_runwarden_k94_whole_rules_as_parcels) (n := 63) (k := 41) (x := "script") (CX := fun _ => L2.CX0) rfl (by decide) (by kernel_rfl) ⟨rfl, by decide, by decide⟩ ?F (fun _ _ _ _ _ z => z)
    intro w mg fa h Y G hm0
    obtain ⟨K, KX, c⟩ := Y
    have hm : mg ("law" : PySem.Str) = some (.ref fa) := by
      have e : (HandSHeadRun.topDef Rwd.R.prog 52).name = ("law" : PySem.Str) := by kernel_rfl
      rw [← e]
      exact hm0
    exact ⟨K, KX, Rwd.law_ok KX G hm c hF⟩
end

section
set_option Elab.async false
set_option linter.all false
set_option autoImplicit true
/-! DEv: data that stand for Lean values, and what the combinators of DSem answer at them. -/
namespace Dm.M
open PySem PySem.W
/-! ### encoders -/
class Enc {α : Type} [DecidableEq α] (e : α → D) where
  n : Nat
  lay : ∀ a, (e a).canLay0 = true
  dep : ∀ a, (e a).depth ≤ n
  eqv : ∀ a b, PyData.eqv (e a) (e b) = decide (a = b)
def tu {α : Type} (e : α → D) (xs : List α) : D := .tuple (xs.map e)
def li {α : Type} (e : α → D) (xs : List α) : D := .list (xs.map e)
def pr {α β : Type} (e : α → D) (f : β → D) (p : α × β) : D := .tuple [e p.1, f p.2]
theorem beq_dec {α : Type} [BEq α] [LawfulBEq α] [DecidableEq α] (a b : α) : (a == b) = decide (a = b) := by rw [Bool.eq_iff_iff, beq_iff_eq, decide_eq_true_eq]
instance : Enc PyData.int := ⟨0, fun _ => rfl, fun _ => Nat.le_refl _, fun a b => by simp only [PyData.eqv]; exact beq_dec a b⟩
instance : Enc PyData.bool := ⟨0, fun _ => rfl, fun _ => Nat.le_refl _, fun a b => by simp only [PyData.eqv]; exact beq_dec a b⟩
section
variable {α β : Type} [DecidableEq α] [DecidableEq β] {e : α → D} {f : β → D} [Enc e] [Enc f]
theorem lay_map : ∀ xs : List α, PyData.canLayAll0 (xs.map e) = true
  | [] => rfl
  | x :: xs => by rw [List.map_cons, PyData.canLayAll0, Enc.lay x, lay_map xs]; rfl
theorem dep_map : ∀ xs : List α, PyData.depthAll (xs.map e) ≤ Enc.n e
  | [] => Nat.zero_le _
  | x :: xs => by rw [List.map_cons, PyData.depthAll]; exact Nat.max_le.mpr ⟨Enc.dep x, dep_map xs⟩
theorem eqvAll_enc : ∀ xs ys : List α, PyData.eqvAll (xs.map e) (ys.map e) = decide (xs = ys)
  | [], [] => by simp only [List.map_nil, PyData.eqvAll, decide_true]
  | [], _ :: _ => by simp [PyData.eqvAll]
  | _ :: _, [] => by simp [PyData.eqvAll]
  | x :: xs, y :: ys => by
    rw [List.map_cons, List.map_cons, PyData.eqvAll, Enc.eqv x y, eqvAll_enc xs ys, ← Bool.decide_and]
    exact decide_eq_decide.mpr (by rw [List.cons.injEq])
instance : Enc (tu e) := ⟨Enc.n e + 1, fun xs => by simp only [tu, PyData.canLay0]; exact lay_map xs, fun xs => by simp only [tu, PyData.depth]; exact Nat.succ_le_succ (dep_map xs), fun xs ys => by simp only [tu, PyData.eqv]; exact eqvAll_enc xs ys⟩
instance : Enc (li e) := ⟨Enc.n e + 1, fun xs => by simp only [li, PyData.canLay0]; exact lay_map xs, fun xs => by simp only [li, PyData.depth]; exact Nat.succ_le_succ (dep_map xs), fun xs ys => by simp only [li, PyData.eqv]; exact eqvAll_enc xs ys⟩
instance : Enc (pr e f) := ⟨max (Enc.n e) (Enc.n f) + 1, fun p => by simp only [pr, PyData.canLay0, PyData.canLayAll0, Enc.lay, Bool.and_self], fun p => by
    simp only [pr, PyData.depth, PyData.depthAll]
    exact Nat.succ_le_succ (Nat.max_le.mpr ⟨Nat.le_trans (Enc.dep p.1) (Nat.le_max_left _ _), Nat.max_le.mpr ⟨Nat.le_trans (Enc.dep p.2) (Nat.le_max_right _ _), Nat.zero_le _⟩⟩), fun p q => by
    simp only [pr, PyData.eqv, PyData.eqvAll]
    rw [Enc.eqv, Enc.eqv, Bool.and_true, ← Bool.decide_and]
    exact decide_eq_decide.mpr ⟨fun z => Prod.ext z.1 z.2, fun z => by rw [z]; exact ⟨rfl, rfl⟩⟩⟩
theorem plain_enc (a : α) (h : Enc.n e ≤ 64 := by decide) : plain (e a) = true := by
  unfold plain SeqAt.shaped
  rw [Enc.lay a, Bool.true_and]
  exact decide_eq_true (Nat.le_trans (Enc.dep a) h)
/-! ### operators -/
theorem eqD_enc (a b : α) (h : Enc.n e ≤ 64 := by decide) : eqD (e a) (e b) = some (.bool (decide (a = b))) := by
  unfold eqD
  rw [plain_enc a h, plain_enc b h, Enc.eqv]
  rfl
theorem neD_enc (a b : α) (h : Enc.n e ≤ 64 := by decide) : neD (e a) (e b) = some (.bool (!decide (a = b))) := by
  unfold neD
  rw [plain_enc a h, plain_enc b h, Enc.eqv]
  rfl
theorem inL_enc (x : α) (ys : List α) : inL (e x) (ys.map e) = decide (x ∈ ys) := by
  unfold inL
  induction ys with
  | nil => rfl
  | cons y ys ih =>
    rw [List.map_cons, List.any_cons, ih, Enc.eqv, ← Bool.decide_or]
    exact decide_eq_decide.mpr ⟨fun z => z.elim (fun q => q ▸ List.mem_cons_self) (List.mem_cons_of_mem _), fun z => (List.mem_cons.mp z).imp Eq.symm id⟩
theorem inD_tu (x : α) (ys : List α) (h : Enc.n e ≤ 63 := by decide) : inD (e x) (tu e ys) = some (.bool (decide (x ∈ ys))) := by
  have h1 : plain (tu e ys) = true := plain_enc ys (Nat.succ_le_succ h)
  have h2 : plain (e x) = true := plain_enc x (Nat.le_succ_of_le h)
  unfold tu at h1 ⊢
  unfold inD
  simp only [h1, h2, inL_enc, Bool.and_self, if_true]
theorem inD_li (x : α) (ys : List α) (h : Enc.n e ≤ 63 := by decide) : inD (e x) (li e ys) = some (.bool (decide (x ∈ ys))) := by
  have h1 : plain (li e ys) = true := plain_enc ys (Nat.succ_le_succ h)
  have h2 : plain (e x) = true := plain_enc x (Nat.le_succ_of_le h)
  unfold li at h1 ⊢
  unfold inD
  simp only [h1, h2, inL_enc, Bool.and_self, if_true]
theorem ninD_tu (x : α) (ys : List α) (h : Enc.n e ≤ 63 := by decide) : ninD (e x) (tu e ys) = some (.bool (!decide (x ∈ ys))) := by
  have h1 : plain (tu e ys) = true := plain_enc ys (Nat.succ_le_succ h)
  have h2 : plain (e x) = true := plain_enc x (Nat.le_succ_of_le h)
  unfold tu at h1 ⊢
  unfold ninD
  simp only [h1, h2, inL_enc, Bool.and_self, if_true]
theorem ninD_li (x : α) (ys : List α) (h : Enc.n e ≤ 63 := by decide) : ninD (e x) (li e ys) = some (.bool (!decide (x ∈ ys))) := by
  have h1 : plain (li e ys) = true := plain_enc ys (Nat.succ_le_succ h)
  have h2 : plain (e x) = true := plain_enc x (Nat.le_succ_of_le h)
  unfold li at h1 ⊢
  unfold ninD
  simp only [h1, h2, inL_enc, Bool.and_self, if_true]
theorem indexL_enc (ys : List α) (x : α) : indexL (ys.map e) (e x) = ys.findIdx? fun y => decide (y = x) := by
  unfold indexL
  rw [List.findIdx?_map]
  congr 1
  funext y
  exact Enc.eqv y x
theorem tixD_tu (ys : List α) (x : α) (h : Enc.n e ≤ 63 := by decide) : tixD (tu e ys) (e x) = (ys.findIdx? fun y => decide (y = x)).map fun (i : Nat) => PyData.int (i : Int) := by
  have h1 : plain (tu e ys) = true := plain_enc ys (Nat.succ_le_succ h)
  have h2 : plain (e x) = true := plain_enc x (Nat.le_succ_of_le h)
  unfold tu at h1 ⊢
  unfold tixD indexD
  simp only [h1, h2, indexL_enc, Bool.and_self, if_true]
  rfl
end
section
variable {α β : Type} {e : α → D} {f : β → D}
@[simp] theorem lenD_tu (xs : List α) : lenD (tu e xs) = some (.int xs.length) := by simp [tu, lenD]
@[simp] theorem lenD_li (xs : List α) : lenD (li e xs) = some (.int xs.length) := by simp [li, lenD]
theorem atL_map (xs : List α) (i : Int) : atL (xs.map e) i = (atL xs i).map e := by
  unfold atL
  simp only [List.length_map, List.getElem?_map]
  split
  · rfl
  · split <;> rfl
@[simp] theorem ixD_tu (xs : List α) (i : Int) : ixD (tu e xs) (.int i) = (atL xs i).map e := by
  rw [← atL_map]
  rfl
@[simp] theorem ixD_li (xs : List α) (i : Int) : ixD (li e xs) (.int i) = (atL xs i).map e := by
  rw [← atL_map]
  rfl
@[simp] theorem atL_nat (xs : List α) (i : Nat) : atL xs (i : Int) = xs[i]? := by
  unfold atL
  rw [if_pos (Int.natCast_nonneg i)]
  rfl
@[simp] theorem atL_zero (xs : List α) : atL xs 0 = xs[0]? := atL_nat xs 0
@[simp] theorem atL_one (xs : List α) : atL xs 1 = xs[1]? := atL_nat xs 1
@[simp] theorem atL_succ (xs : List α) (i : Nat) : atL xs ((i : Int) + 1) = xs[i + 1]? := atL_nat xs (i + 1)
@[simp] theorem atL_last (xs : List α) : atL xs (-1) = xs.getLast? := by
  unfold atL
  rw [if_neg (by decide)]
  cases xs with
  | nil => rfl
  | cons x xs =>
    rw [if_pos (by simp; omega), List.getLast?_eq_getElem?]
    congr 1
    simp
    omega
theorem addD_tu (xs ys : List α) (h : xs.length + ys.length ≤ 16777216) : addD (tu e xs) (tu e ys) = some (tu e (xs ++ ys)) := by
  simp only [tu, addD, List.length_map, lenOk, List.map_append]
  rw [if_pos (decide_eq_true h)]
theorem addD_li (xs ys : List α) (h : xs.length + ys.length ≤ 16777216) : addD (li e xs) (li e ys) = some (li e (xs ++ ys)) := by
  simp only [li, addD, List.length_map, lenOk, List.map_append]
  rw [if_pos (decide_eq_true h)]
theorem cutL_map (xs : List α) (a b : Option Int) : cutL (xs.map e) a b = (cutL xs a b).map e := by
  unfold cutL
  simp only [List.length_map, List.map_take, List.map_drop]
@[simp] theorem cutD_tu (xs : List α) (a b : Option Int) : cutD (tu e xs) a b = some (tu e (cutL xs a b)) := by
  simp only [tu, cutD, cutL_map]
@[simp] theorem cutD_li (xs : List α) (a b : Option Int) : cutD (li e xs) a b = some (li e (cutL xs a b)) := by
  simp only [li, cutD, cutL_map]
theorem backL_map (xs : List α) (a : Option Int) : backL (xs.map e) a = (backL xs a).map e := by
  unfold backL
  cases a with
  | none => simp only [List.map_reverse]
  | some i =>
    simp only [List.length_map]
    split <;> simp only [List.map_reverse, List.map_take]
@[simp] theorem backD_tu (xs : List α) (a : Option Int) : backD (tu e xs) a = some (tu e (backL xs a)) := by
  simp only [tu, backD, backL_map]
@[simp] theorem backD_li (xs : List α) : backD (li e xs) none = some (li e xs.reverse) := by
  simp only [li, backD, List.map_reverse]
@[simp] theorem truD_tu (xs : List α) : truD (tu e xs) = some (!xs.isEmpty) := by simp [tu, truD]
@[simp] theorem truD_li (xs : List α) : truD (li e xs) = some (!xs.isEmpty) := by simp [li, truD]
theorem zipL_map : ∀ (xs : List α) (ys : List β), zipL (xs.map e) (ys.map f) = (xs.zip ys).map (pr e f)
  | [], _ => rfl
  | _ :: _, [] => rfl
  | x :: xs, y :: ys => by rw [List.map_cons, List.map_cons, zipL, zipL_map xs ys]; rfl
@[simp] theorem zipD_tu (xs : List α) (ys : List β) : zipD (tu e xs) (tu f ys) = some ((xs.zip ys).map (pr e f)) := by
  rw [← zipL_map]
  rfl
@[simp] theorem seqD_tu (xs : List α) : seqD (tu e xs) = some (xs.map e) := rfl
@[simp] theorem seqD_li (xs : List α) : seqD (li e xs) = some (xs.map e) := rfl
@[simp] theorem isNone_tu (xs : List α) : isNone (tu e xs) = false := rfl
end
@[simp] theorem ltD_int (a b : Int) : ltD (.int a) (.int b) = some (.bool (decide (a < b))) := by
  have h : ordOk (.int a) (.int b) = true := rfl
  unfold ltD
  rw [h, if_pos rfl, dataLt_int]
@[simp] theorem gtD_int (a b : Int) : gtD (.int a) (.int b) = some (.bool (decide (a > b))) := by
  have h : ordOk (.int a) (.int b) = true := rfl
  unfold gtD
  rw [h, if_pos rfl, dataLt_int]
theorem not_lt_dec (a b : Int) : (!decide (b < a)) = decide (a ≤ b) := by
  rw [← decide_not]
  exact decide_eq_decide.mpr Int.not_lt
@[simp] theorem leD_int (a b : Int) : leD (.int a) (.int b) = some (.bool (decide (a ≤ b))) := by
  have h : ordOk (.int a) (.int b) = true := rfl
  unfold leD
  rw [h, if_pos rfl, dataLt_int, not_lt_dec]
@[simp] theorem geD_int (a b : Int) : geD (.int a) (.int b) = some (.bool (decide (a ≥ b))) := by
  have h : ordOk (.int a) (.int b) = true := rfl
  unfold geD
  rw [h, if_pos rfl, dataLt_int, not_lt_dec]
@[simp] theorem eqD_int (a b : Int) : eqD (.int a) (.int b) = some (.bool (decide (a = b))) := eqD_enc (e := PyData.int) a b
@[simp] theorem neD_int (a b : Int) : neD (.int a) (.int b) = some (.bool (!decide (a = b))) := neD_enc (e := PyData.int) a b
theorem intsOf_map : ∀ xs : List Int, intsOf (xs.map .int) = some xs
  | [] => rfl
  | x :: xs => by rw [List.map_cons, intsOf, intsOf_map xs]; rfl
@[simp] theorem sumD_ints (xs : List Int) : sumD (li .int xs) = some (.int xs.sum) := by
  unfold sumD li
  simp only [intsOf_map, Option.map_some]
theorem boolsOf_map : ∀ xs : List Bool, boolsOf (xs.map .bool) = some xs
  | [] => rfl
  | x :: xs => by rw [List.map_cons, boolsOf, boolsOf_map xs]; rfl
theorem allLD_bools (xs : List Bool) : allLD (li .bool xs) = some (.bool (xs.all id)) := by
  unfold allLD li
  simp only [boolsOf_map, Option.map_some]
@[simp] theorem rangeL_nat (n : Nat) : rangeL 0 n = (List.range n).map fun i : Nat => .int (i : Int) := by simp [rangeL]
/-! ### comprehensions and loops -/
section
variable {α : Type} {e : α → D} {r : Env} {tg : Tg} {ts : T} {el : E}
theorem compL_map {β : Type} {f : β → D} (p : α → Bool) (g : α → β) : ∀ (xs : List α), (∀ x ∈ xs, ∃ r1, asg tg (e x) r = some r1 ∧ ts r1 = some (p x) ∧ (p x = true → el r1 = some (f (g x)))) → compL r tg ts el (xs.map e) = some (((xs.filter p).map g).map f)
  | [], _ => rfl
  | x :: xs, h => by
    obtain ⟨r1, h1, h2, h3⟩ := h x List.mem_cons_self
    have ih := compL_map (f := f) p g xs fun y hy => h y (List.mem_cons_of_mem _ hy)
    rw [List.map_cons, compL, h1]
    simp only [Option.bind_eq_bind, Option.bind_some, h2]
    cases hp : p x with
    | false => rw [List.filter_cons_of_neg (by simp [hp])]; exact ih
    | true =>
      rw [List.filter_cons_of_pos hp]
      simp only [if_true, h3 hp, ih, Option.bind_some, List.map_cons]
theorem qL_all (p : α → Bool) : ∀ (xs : List α), (∀ x ∈ xs, ∃ r1, asg tg (e x) r = some r1 ∧ ts r1 = some true ∧ el r1 = some (.bool (p x))) → qL true r tg ts el (xs.map e) = some (xs.all p)
  | [], _ => rfl
  | x :: xs, h => by
    obtain ⟨r1, h1, h2, h3⟩ := h x List.mem_cons_self
    have ih := qL_all p xs fun y hy => h y (List.mem_cons_of_mem _ hy)
    rw [List.map_cons, qL, h1]
    simp only [Option.bind_eq_bind, Option.bind_some, h2, h3, if_true, List.all_cons]
    cases hp : p x with
    | false => rw [if_neg (by decide), Bool.false_and]
    | true => rw [if_pos rfl, Bool.true_and]; exact ih
theorem qL_any (p : α → Bool) : ∀ (xs : List α), (∀ x ∈ xs, ∃ r1, asg tg (e x) r = some r1 ∧ ts r1 = some true ∧ el r1 = some (.bool (p x))) → qL false r tg ts el (xs.map e) = some (xs.any p)
  | [], _ => rfl
  | x :: xs, h => by
    obtain ⟨r1, h1, h2, h3⟩ := h x List.mem_cons_self
    have ih := qL_any p xs fun y hy => h y (List.mem_cons_of_mem _ hy)
    rw [List.map_cons, qL, h1]
    simp only [Option.bind_eq_bind, Option.bind_some, h2, h3, if_true, List.any_cons]
    cases hp : p x with
    | true => rw [if_neg (by decide), Bool.true_or]
    | false => rw [if_pos rfl, Bool.false_or]; exact ih
variable {b : S}
/-- a loop that goes through all; I tells what holds behind the first ones -/
theorem forL_all (I : List α → Env → Prop) : ∀ (xs pre : List α) (r : Env), I pre r → (∀ done x rest r, pre ++ xs = done ++ x :: rest → I done r → ∃ r1 r2, asg tg (e x) r = some r1 ∧ (b r1 = some (.nx r2) ∨ b r1 = some (.ct r2)) ∧ I (done ++ [x]) r2) →
    ∃ r', forL tg b (xs.map e) r = some (.nx r') ∧ I (pre ++ xs) r'
  | [], pre, r, h, _ => ⟨r, rfl, by rw [List.append_nil]; exact h⟩
  | x :: xs, pre, r, h, hs => by
    obtain ⟨r1, r2, h1, h2, h3⟩ := hs pre x xs r rfl h
    obtain ⟨r', q1, q2⟩ := forL_all I xs (pre ++ [x]) r2 h3 (fun done y rest s hd hI => hs done y rest s (by rw [← hd, List.append_assoc]; rfl) hI)
    refine ⟨r', ?_, by rw [List.append_assoc] at q2; exact q2⟩
    rw [List.map_cons, forL, h1]
    simp only [Option.bind_eq_bind, Option.bind_some]
    rcases h2 with h2 | h2 <;> simp only [h2, Option.bind_some] <;> exact q1
/-- the first at which p holds is answered by g; else I stays -/
theorem forL_find (I : Env → Prop) (p : α → Bool) (g : α → D) : ∀ (xs : List α) (r : Env), I r → (∀ x ∈ xs, ∀ r, I r → ∃ r1, asg tg (e x) r = some r1 ∧ (p x = true → b r1 = some (.rt (g x))) ∧ (p x = false → ∃ r2, (b r1 = some (.nx r2) ∨ b r1 = some (.ct r2)) ∧ I r2)) →
    (∀ x, xs.find? p = some x → forL tg b (xs.map e) r = some (.rt (g x))) ∧ (xs.find? p = none → ∃ r', forL tg b (xs.map e) r = some (.nx r') ∧ I r')
  | [], r, h, _ => ⟨(fun x z => by cases z), fun _ => ⟨r, rfl, h⟩⟩
  | x :: xs, r, h, hs => by
    obtain ⟨r1, h1, h2, h3⟩ := hs x List.mem_cons_self r h
    rw [List.map_cons]
    cases hp : p x with
    | true =>
      rw [List.find?_cons_of_pos hp]
      refine ⟨fun y z => ?_, (fun z => by cases z)⟩
      cases z
      rw [forL, h1]
      simp only [Option.bind_eq_bind, Option.bind_some, h2 hp]
    | false =>
      rw [List.find?_cons_of_neg (by simp [hp])]
      obtain ⟨r2, q1, q2⟩ := h3 hp
      obtain ⟨k1, k2⟩ := forL_find I p g xs r2 q2 fun y hy => hs y (List.mem_cons_of_mem _ hy)
      have ef : forL tg b (e x :: xs.map e) r = forL tg b (xs.map e) r2 := by
        rw [forL, h1]
        simp only [Option.bind_eq_bind, Option.bind_some]
        rcases q1 with q1 | q1 <;> simp only [q1, Option.bind_some]
      rw [ef]
      exact ⟨k1, k2⟩
end
@[simp] theorem truD_bool (b : Bool) : truD (.bool b) = some b := rfl
@[simp] theorem truD_int (a : Int) : truD (.int a) = some (a != 0) := rfl
@[simp] theorem truD_none : truD .none = some false := rfl
@[simp] theorem addD_int (a b : Int) : addD (.int a) (.int b) = some (.int (a + b)) := rfl
@[simp] theorem subD_int (a b : Int) : subD (.int a) (.int b) = some (.int (a - b)) := rfl
@[simp] theorem negD_int (a : Int) : negD (.int a) = some (.int (-a)) := rfl
@[simp] theorem intD_int (a : Int) : intD (.int a) = some (.int a) := rfl
@[simp] theorem isND_eq (d : D) : isND d = some (.bool (isNone d)) := rfl
@[simp] theorem notND_eq (d : D) : notND d = some (.bool (!isNone d)) := rfl
@[simp] theorem isNone_none : isNone .none = true := rfl
@[simp] theorem isNone_int (a : Int) : isNone (.int a) = false := rfl
@[simp] theorem isNone_dict (kvs : List (D × D)) : isNone (.dict kvs) = false := rfl
/-! ### the combinators, opened (for simp) -/
section
variable (r : Env) (i j p n : Nat) (d : D) (a b c : E) (t u : T) (o q : D → D → Option D) (f : D → Option D) (F : List D → Option D) (es : List E) (it : I) (tg : Tg) (st su : S) (ss : List S)
@[simp] theorem ev_k : kE d r = some d := rfl
@[simp] theorem ev_v : vE i r = (match r[i]? with | some (.va d) => some d | _ => none) := rfl
@[simp] theorem ev_b : bE i r = (match r[i]? with | some (.va d) => some d | some (.ow d) => some d | _ => none) := rfl
@[simp] theorem ev_op : opE o a b r = (a r).bind fun x => (b r).bind fun y => o x y := rfl
@[simp] theorem ev_un : unE f a r = (a r).bind f := rfl
@[simp] theorem ev_tr : trT a r = (a r).bind truD := rfl
@[simp] theorem ev_not : notT t r = (t r).bind fun x => some (!x) := rfl
@[simp] theorem ev_and : andT t u r = (t r).bind fun x => if x = true then u r else some false := rfl
@[simp] theorem ev_or : orT t u r = (t r).bind fun x => if x = true then some true else u r := rfl
@[simp] theorem ev_if : ifE t a b r = (t r).bind fun x => if x = true then a r else b r := rfl
@[simp] theorem ev_notE : notE a r = (a r).bind fun x => (truD x).bind fun y => some (.bool (!y)) := rfl
@[simp] theorem ev_andE : andE a b r = (a r).bind fun x => (truD x).bind fun y => if y = true then b r else some x := rfl
@[simp] theorem ev_orE : orE a b r = (a r).bind fun x => (truD x).bind fun y => if y = true then some x else b r := rfl
@[simp] theorem ev_args0 : argsE [] r = some [] := rfl
@[simp] theorem ev_args1 : argsE (a :: es) r = (a r).bind fun x => (argsE es r).bind fun xs => some (x :: xs) := rfl
@[simp] theorem ev_tup : tupE es r = (argsE es r).bind fun xs => some (.tuple xs) := rfl
@[simp] theorem ev_lst : lstE es r = (argsE es r).bind fun xs => some (.list xs) := rfl
@[simp] theorem ev_call : callE F es r = (argsE es r).bind F := rfl
@[simp] theorem ev_part0 : partE none r = some none := rfl
@[simp] theorem ev_part1 : partE (some a) r = (match a r with | some (.int i) => some (some i) | _ => none) := rfl
@[simp] theorem ev_cut (lo hi : Option E) : cutE c lo hi r = (c r).bind fun x => (partE lo r).bind fun y => (partE hi r).bind fun z => cutD x y z := rfl
@[simp] theorem ev_back (lo : Option E) : backE c lo r = (c r).bind fun x => (partE lo r).bind fun y => backD x y := rfl
@[simp] theorem ev_seq : seqI a r = (a r).bind seqD := rfl
@[simp] theorem ev_zip : zipI a b r = (a r).bind fun x => (b r).bind fun y => zipD x y := rfl
@[simp] theorem ev_rev : revI a r = (a r).bind fun x => (seqD x).bind fun y => some y.reverse := rfl
@[simp] theorem ev_keys : keysI a r = (a r).bind fun x => (match x with | .dict kvs => some (kvs.map (·.1)) | _ => none) := rfl
theorem ev_rg : rgI a b r = (a r).bind fun x => (b r).bind fun y => (match x, y with | .int a, .int b => if big62 a && big62 b then some (rangeL a b) else none | _, _ => none) := rfl
theorem ev_rgd : rgDownI a b r = (a r).bind fun x => (b r).bind fun y => (match x, y with | .int a, .int b => if big62 a && big62 b then some ((List.range (a - b).toNat).map fun i : Nat => .int (a - (i : Int))) else none | _, _ => none) := rfl
@[simp] theorem ev_rg' : rgI' a b r = (rgI a b r).bind fitL := rfl
@[simp] theorem ev_lstI : lstI it r = (it r).bind fun xs => some (.list xs) := rfl
@[simp] theorem ev_tupI : tupI it r = (it r).bind fun xs => some (.tuple xs) := rfl
@[simp] theorem ev_noT : noT r = some true := rfl
@[simp] theorem ev_wipe0 : wipeE r [] = r := rfl
@[simp] theorem ev_wipe1 (vs : List Nat) : wipeE r (i :: vs) = (wipeE r vs).set i .no := rfl
@[simp] theorem ev_comp (own : List Nat) : compI own it tg t a r = (it r).bind fun xs => (compL (wipeE r own) tg t a xs).bind fitL := rfl
@[simp] theorem ev_all (own : List Nat) : allE own it tg t a r = (it r).bind fun xs => (qL true (wipeE r own) tg t a xs).bind fun b => some (.bool b) := rfl
@[simp] theorem ev_any (own : List Nat) : anyE own it tg t a r = (it r).bind fun xs => (qL false (wipeE r own) tg t a xs).bind fun b => some (.bool b) := rfl
@[simp] theorem ev_ch : chE o q a b c r = (a r).bind fun x => (b r).bind fun y => (o x y).bind fun z => (match z with | .bool true => (c r).bind fun w => q y w | .bool false => some (.bool false) | _ => none) := rfl
@[simp] theorem ev_asg1 : asg (.nm i) d r = some (r.set i (.va d)) := by rw [asg]
@[simp] theorem ev_asgT (ts : List Tg) (xs : List D) : asg (.tp ts) (.tuple xs) r = (if ts.length = xs.length then asgs ts xs r else none) := by rw [asg]
@[simp] theorem ev_asgs0 : asgs [] [] r = some r := by rw [asgs]
@[simp] theorem ev_asgs1 (ts : List Tg) (xs : List D) : asgs (tg :: ts) (d :: xs) r = (asg tg d r).bind fun s => asgs ts xs s := by rw [asgs]; rfl
@[simp] theorem ev_pr {α β : Type} (e : α → D) (f : β → D) (x : α × β) : asg (.tp [.nm i, .nm j]) (pr e f x) r = some ((r.set i (.va (e x.1))).set j (.va (f x.2))) := by
  rw [pr]
  simp
@[simp] theorem ev_blk0 : blk [] r = some (.nx r) := rfl
@[simp] theorem ev_blk1 : blk (st :: ss) r = (st r).bind fun x => (match x with | .nx r1 => blk ss r1 | y => some y) := by
  rw [blk]
  rfl
@[simp] theorem ev_sAsg : sAsg tg a r = (a r).bind fun d => (asg tg d r).bind fun s => some (.nx s) := rfl
@[simp] theorem ev_sOwn : sOwn i a r = (a r).bind fun d => some (.nx (r.set i (.ow d))) := rfl
@[simp] theorem ev_sIf : sIf t st su r = (t r).bind fun x => if x = true then st r else su r := rfl
@[simp] theorem ev_sRet : sRet a r = (a r).bind fun d => some (.rt d) := rfl
@[simp] theorem ev_sFor : sFor it tg st r = (it r).bind fun xs => forL tg st xs r := rfl
@[simp] theorem ev_own : own r i = (match r[i]? with | some (.ow d) => some d | _ => none) := rfl
@[simp] theorem ev_sApp : sApp i a r = (a r).bind fun d => (own r i).bind fun x => (match x with | .list xs => if lenOk (xs.length + 1) then some (.nx (r.set i (.ow (.list (xs ++ [d]))))) else none | _ => none) := rfl
@[simp] theorem ev_sExt : sExt i it r = (it r).bind fun ys => (own r i).bind fun x => (match x with | .list xs => if lenOk (xs.length + ys.length) then some (.nx (r.set i (.ow (.list (xs ++ ys))))) else none | _ => none) := rfl
@[simp] theorem ev_sPut : sPut i a b r = (b r).bind fun d => (a r).bind fun k => (own r i).bind fun x => (match x with
  | .list xs => (match k with
    | .int n => (setAt xs n d).bind fun ys => some (.nx (r.set i (.ow (.list ys))))
    | _ => none)
  | .dict kvs => if fitsK kvs k && lenOk (kvs.length + 1) then some (.nx (r.set i (.ow (.dict (putD kvs k d))))) else none
  | _ => none) := rfl
@[simp] theorem ev_sAppMv : sAppMv i j r = (own r j).bind fun d => (own r i).bind fun x => (match x with
  | .list xs => if lenOk (xs.length + 1) && decide (i ≠ j) then some (.nx ((r.set j (.va d)).set i (.ow (.list (xs ++ [d]))))) else none
  | _ => none) := rfl
@[simp] theorem ev_def (as : List D) : dDef p n st as = (if as.length = p then (match st (as.map .va ++ List.replicate (n - p) .no) with | some (.rt d) => some d | some (.nx _) => some .none | _ => none) else none) := rfl
end
/-! ### dicts with int keys -/
def dI (f : Int → D) (ks : List Int) : List (D × D) := ks.map fun k => (.int k, f k)
section
variable (f : Int → D) (ks : List Int) (k : Int)
theorem fitsK_dI : fitsK (dI f ks) (.int k) = true := by
  unfold fitsK dI
  simp [flatK]
theorem eqv_int (a b : Int) : PyData.eqv (.int a) (.int b) = decide (a = b) := Enc.eqv (e := PyData.int) a b
theorem lookD_dI : lookD (dI f ks) (.int k) = if k ∈ ks then some (f k) else none := by
  unfold lookD dI
  induction ks with
  | nil => rfl
  | cons x xs ih =>
    rw [List.map_cons, List.find?_cons, eqv_int]
    by_cases h : x = k
    · subst h
      simp
    · have h' : ¬ k = x := fun z => h z.symm
      simp only [h, decide_false, ih, List.mem_cons, h', false_or]
theorem ixD_dI (h : k ∈ ks) : ixD (.dict (dI f ks)) (.int k) = some (f k) := by
  show (if fitsK (dI f ks) (.int k) then lookD (dI f ks) (.int k) else none) = _
  rw [fitsK_dI, if_pos rfl, lookD_dI, if_pos h]
theorem inD_dI : inD (.int k) (.dict (dI f ks)) = some (.bool (decide (k ∈ ks))) := by
  show (if fitsK (dI f ks) (.int k) then some (PyData.bool (lookD (dI f ks) (.int k)).isSome) else none) = _
  rw [fitsK_dI, if_pos rfl, lookD_dI]
  by_cases h : k ∈ ks <;> simp [h]
theorem any_dI : ((dI f ks).any fun p => PyData.eqv p.1 (.int k)) = decide (k ∈ ks) := by
  unfold dI
  rw [List.any_map]
  have e := inL_enc (e := PyData.int) k ks
  unfold inL at e
  rw [List.any_map] at e
  exact e
theorem putD_new (v : D) (h : k ∉ ks) : putD (dI f ks) (.int k) v = dI f ks ++ [(.int k, v)] := by
  unfold putD
  rw [any_dI, if_neg (by simp [h])]
/-- k's value is v from now on -/
theorem putD_dI (v : D) : putD (dI f ks) (.int k) v = dI (fun j => if j = k then v else f j) (if k ∈ ks then ks else ks ++ [k]) := by
  by_cases h : k ∈ ks
  · rw [if_pos h]
    unfold putD
    rw [any_dI, if_pos (decide_eq_true h)]
    unfold dI
    rw [List.map_map]
    refine List.map_congr_left fun j _ => ?_
    simp only [Function.comp_apply, eqv_int, decide_eq_true_eq]
    split <;> rfl
  · rw [if_neg h, putD_new f ks k v h]
    unfold dI
    rw [List.map_append]
    congr 1
    · refine List.map_congr_left fun j hj => ?_
      have hne : ¬ j = k := fun z => h (by rw [← z]; exact hj)
      simp only [hne, if_false]
    · simp
theorem dI_congr {f g : Int → D} {ks : List Int} (h : ∀ k ∈ ks, f k = g k) : dI f ks = dI g ks := List.map_congr_left fun k hk => by rw [h k hk]
theorem dI_snoc (v : D) (h : f k = v) : dI f ks ++ [(.int k, v)] = dI f (ks ++ [k]) := by
  unfold dI
  rw [List.map_append, List.map_singleton, h]
theorem keys_dI : (dI f ks).map (·.1) = ks.map .int := by
  unfold dI
  rw [List.map_map]
  rfl
theorem len_dI : (dI f ks).length = ks.length := by
  unfold dI
  rw [List.length_map]
end
theorem sort_sorted {xs : List Int} (h : xs.Pairwise (· ≤ ·)) : (xs.mergeSort fun a b => decide (a ≤ b)) = xs :=
  List.mergeSort_of_pairwise (h.imp fun q => decide_eq_true q)
theorem sortKD_dI {f : Int → D} {ks : List Int} (hs : ks.Pairwise (· ≤ ·)) (hl : ks.length < 64) : sortKD (.dict (dI f ks)) = some (li .int ks) := by
  unfold sortKD
  simp only [keys_dI, intsOf_map, decide_eq_true hl, if_true, sort_sorted hs]
  rfl
@[simp] theorem sumD_map {α : Type} (g : α → Int) (xs : List α) : sumD (.list (xs.map (PyData.int ∘ g))) = some (.int (xs.map g).sum) := by
  rw [← sumD_ints, li, List.map_map]
theorem lenOk_small {n : Nat} (h : n ≤ 16777216) : lenOk n = true := decide_eq_true h
theorem fitL_ok {xs : List D} (h : xs.length ≤ 16777216) : fitL xs = some xs := by
  unfold fitL
  rw [lenOk_small h, if_pos rfl]
theorem lenOk_filter {α : Type} {p : α → Bool} {xs : List α} (h : xs.length ≤ 16777216) : lenOk (xs.filter p).length = true := lenOk_small (Nat.le_trans (List.length_filter_le _ _) h)
@[simp] theorem truD_list (xs : List D) : truD (.list xs) = some (!xs.isEmpty) := rfl
@[simp] theorem truD_tuple (xs : List D) : truD (.tuple xs) = some (!xs.isEmpty) := rfl
@[simp] theorem ixD_list (xs : List D) (n : Int) : ixD (.list xs) (.int n) = atL xs n := rfl
@[simp] theorem ixD_tuple (xs : List D) (n : Int) : ixD (.tuple xs) (.int n) = atL xs n := rfl
@[simp] theorem lenD_list (xs : List D) : lenD (.list xs) = some (.int xs.length) := rfl
@[simp] theorem lenD_tuple (xs : List D) : lenD (.tuple xs) = some (.int xs.length) := rfl
@[simp] theorem seqD_list (xs : List D) : seqD (.list xs) = some xs := rfl
@[simp] theorem seqD_tuple (xs : List D) : seqD (.tuple xs) = some xs := rfl
@[simp] theorem disp_nil (r : Env) : dispE [] r = some (.dict []) := rfl
theorem cutL_last {α : Type} (xs : List α) : cutL xs (some (-1)) none = xs.getLast?.toList := by
  have hlo : clampI xs.length (-1) = xs.length - 1 := by
    unfold clampI
    rw [if_pos (by decide)]
    omega
  show (xs.drop (clampI xs.length (-1))).take (xs.length - clampI xs.length (-1)) = _
  rw [hlo]
  cases hx : xs with
  | nil => rfl
  | cons x r =>
    rw [← hx, List.getLast?_eq_getElem?]
    have hl : 0 < xs.length := by rw [hx]; simp
    have e1 : xs.length - (xs.length - 1) = 1 := by omega
    have h2 : xs.length - 1 < xs.length := by omega
    rw [e1, List.drop_eq_getElem_cons h2, List.getElem?_eq_getElem h2]
    rfl
theorem mem_last {α : Type} {x : α} {xs : List α} : x ∈ cutL xs (some (-1)) none ↔ xs.getLast? = some x := by
  rw [cutL_last]
  simp [eq_comm]
section
variable (x : Int) (ys : List Int) (xs : List Int) (yss : List (List Int))
@[simp] theorem inD_ti : inD (.int x) (tu .int ys) = some (.bool (decide (x ∈ ys))) := inD_tu (e := PyData.int) x ys
@[simp] theorem ninD_ti : ninD (.int x) (tu .int ys) = some (.bool (!decide (x ∈ ys))) := ninD_tu (e := PyData.int) x ys
@[simp] theorem inD_lsi : inD (.int x) (li .int ys) = some (.bool (decide (x ∈ ys))) := inD_li (e := PyData.int) x ys
@[simp] theorem ninD_lsi : ninD (.int x) (li .int ys) = some (.bool (!decide (x ∈ ys))) := ninD_li (e := PyData.int) x ys
@[simp] theorem inD_tti : inD (tu .int xs) (tu (tu .int) yss) = some (.bool (decide (xs ∈ yss))) := (inD_tu (e := tu PyData.int) xs yss).trans (by congr)
@[simp] theorem inD_lti : inD (tu .int xs) (li (tu .int) yss) = some (.bool (decide (xs ∈ yss))) := (inD_li (e := tu PyData.int) xs yss).trans (by congr)
@[simp] theorem eqD_ti : eqD (tu .int xs) (tu .int ys) = some (.bool (decide (xs = ys))) := eqD_enc (e := tu PyData.int) xs ys
@[simp] theorem neD_ti : neD (tu .int xs) (tu .int ys) = some (.bool (!decide (xs = ys))) := neD_enc (e := tu PyData.int) xs ys
end
theorem add_one {α : Type} {e : α → D} (xs : List α) (x : α) (h : xs.length ≤ 1000000) : addD (tu e xs) (.tuple [e x]) = some (tu e (xs ++ [x])) := addD_tu xs [x] (by simp; omega)
@[simp] theorem lenOk_zero : lenOk 0 = true := rfl
@[simp] theorem lenOk_one : lenOk 1 = true := rfl
@[simp] theorem filter_tt {α : Type} (xs : List α) : xs.filter (fun _ => true) = xs := List.filter_eq_self.mpr (by simp)
theorem compL_all {α β : Type} {e : α → D} {f : β → D} {r : Env} {tg : Tg} {ts : T} {el : E} (g : α → β) (xs : List α) (h : ∀ x ∈ xs, ∃ r1, asg tg (e x) r = some r1 ∧ ts r1 = some true ∧ el r1 = some (f (g x))) : compL r tg ts el (xs.map e) = some ((xs.map g).map f) := by
  have := compL_map (f := f) (r := r) (tg := tg) (ts := ts) (el := el) (fun _ => true) g xs (fun x hx => by
    obtain ⟨r1, a, b, c⟩ := h x hx
    exact ⟨r1, a, b, fun _ => c⟩)
  rwa [filter_tt] at this
theorem rangeL_nats (a b : Nat) : rangeL (a : Int) (b : Int) = (List.range' a (b - a)).map fun n : Nat => .int (n : Int) := by
  unfold rangeL
  have e : ((b : Int) - (a : Int)).toNat = b - a := by omega
  rw [e, List.range'_eq_map_range, List.map_map]
  refine List.map_congr_left fun i _ => ?_
  simp
theorem forL_cons {tg : Tg} {b : S} (x : D) (xs : List D) (r : Env) : forL tg b (x :: xs) r = (asg tg x r).bind fun r1 => (b r1).bind fun z => (match z with | .nx r2 => forL tg b xs r2 | .ct r2 => forL tg b xs r2 | .bk r2 => some (.nx r2) | .rt d => some (.rt d)) := rfl
@[simp] theorem forL_nil {tg : Tg} {b : S} (r : Env) : forL tg b [] r = some (.nx r) := rfl
theorem big62_nat {n : Nat} (h : n ≤ 1000000) : big62 (n : Int) = true := by
  unfold big62
  exact decide_eq_true (by omega)
theorem big62_of {n : Int} (h : -1000000 ≤ n ∧ n ≤ 1000000) : big62 n = true := by
  unfold big62
  exact decide_eq_true (by omega)
theorem rg_ev {a b : E} {r : Env} {x y : Int} (ha : a r = some (.int x)) (hb : b r = some (.int y)) (h1 : -1000000 ≤ x ∧ x ≤ 1000000) (h2 : -1000000 ≤ y ∧ y ≤ 1000000) : rgI a b r = some (rangeL x y) := by
  have e : rgI a b r = if (big62 x && big62 y) = true then some (rangeL x y) else none := by
    rw [ev_rg, ha, hb]
    rfl
  rw [e, big62_of h1, big62_of h2]
  rfl
theorem rgd_ev {a b : E} {r : Env} {x y : Int} (ha : a r = some (.int x)) (hb : b r = some (.int y)) (h1 : -1000000 ≤ x ∧ x ≤ 1000000) (h2 : -1000000 ≤ y ∧ y ≤ 1000000) : rgDownI a b r = some ((List.range (x - y).toNat).map fun i : Nat => .int (x - (i : Int))) := by
  have e : rgDownI a b r = if (big62 x && big62 y) = true then some ((List.range (x - y).toNat).map fun i : Nat => .int (x - (i : Int))) else none := by
    rw [ev_rgd, ha, hb]
    rfl
  rw [e, big62_of h1, big62_of h2]
  rfl
/-! ### one step at a time -/
def outR : Res → Option D
  | .rt d => some d
  | .nx _ => some .none
  | _ => none
section
variable {r r0 r1 : Env} {p n : Nat} {b st : S} {ss : List S} {as : List D} {z : Res} {d : D} {it : I} {tg : Tg} {xs : List D}
theorem run_def (hl : as.length = p) (h0 : as.map .va ++ List.replicate (n - p) .no = r0) (hb : b r0 = some z) : dDef p n b as = outR z := by
  subst h0
  unfold dDef
  rw [if_pos hl, hb]
  cases z <;> rfl
theorem blk_nx (h : st r = some (.nx r1)) : blk (st :: ss) r = blk ss r1 := by
  rw [ev_blk1, h]
  rfl
theorem blk_rt (h : st r = some (.rt d)) : blk (st :: ss) r = some (.rt d) := by
  rw [ev_blk1, h]
  rfl
theorem for_ev (h : it r = some xs) : sFor it tg b r = forL tg b xs r := by
  rw [ev_sFor, h]
  rfl
end
theorem clampI_nat (n t : Nat) : clampI n (t : Int) = min t n := by
  unfold clampI
  rw [if_neg (by omega)]
  rfl
theorem cutL_from {α : Type} (xs : List α) (t : Nat) : cutL xs (some (t : Int)) none = xs.drop t := by
  show (xs.drop (clampI xs.length t)).take (xs.length - clampI xs.length t) = _
  rw [clampI_nat]
  by_cases h : t ≤ xs.length
  · rw [Nat.min_eq_left h, List.take_of_length_le (by rw [List.length_drop]; omega)]
  · rw [Nat.min_eq_right (by omega), Nat.sub_self, List.take_zero, List.drop_eq_nil_of_le (by omega)]
theorem cutL_to {α : Type} (xs : List α) (t : Nat) : cutL xs none (some (t : Int)) = xs.take t := by
  show (xs.drop 0).take (clampI xs.length t - 0) = _
  rw [clampI_nat, List.drop_zero, Nat.sub_zero]
  by_cases h : t ≤ xs.length
  · rw [Nat.min_eq_left h]
  · rw [Nat.min_eq_right (by omega), List.take_of_length_le (Nat.le_refl _), List.take_of_length_le (by omega)]
theorem cutL_mid {α : Type} (xs : List α) (i j : Nat) (h : j ≤ xs.length) : cutL xs (some (i : Int)) (some (j : Int)) = (xs.drop i).take (j - i) := by
  show (xs.drop (clampI xs.length i)).take (clampI xs.length j - clampI xs.length i) = _
  rw [clampI_nat, clampI_nat, Nat.min_eq_left h]
  by_cases hi : i ≤ xs.length
  · rw [Nat.min_eq_left hi]
  · rw [Nat.min_eq_right (by omega), show j - xs.length = 0 by omega, show j - i = 0 by omega, List.take_zero, List.take_zero]
theorem backL_from {α : Type} (xs : List α) (t : Nat) (h : t < xs.length) : backL xs (some (t : Int)) = (xs.take (t + 1)).reverse := by
  unfold backL
  dsimp only
  rw [if_neg (by omega)]
  have e : min ((t : Int).toNat + 1) xs.length = t + 1 := by omega
  rw [e]
theorem backL_all {α : Type} (xs : List α) : backL xs none = xs.reverse := rfl
theorem comp_ev {α β : Type} {e : α → D} {f : β → D} {r : Env} {own : List Nat} {it : I} {tg : Tg} {ts : T} {el : E} {xs : List α} (p : α → Bool) (g : α → β) (hi : it r = some (xs.map e)) (hl : xs.length ≤ 16777216)
    (h : ∀ x ∈ xs, ∃ r1, asg tg (e x) (wipeE r own) = some r1 ∧ ts r1 = some (p x) ∧ (p x = true → el r1 = some (f (g x)))) : compI own it tg ts el r = some (((xs.filter p).map g).map f) := by
  rw [ev_comp, hi, Option.bind_some, compL_map p g xs h, Option.bind_some, fitL_ok]
  rw [List.length_map, List.length_map]
  exact Nat.le_trans (List.length_filter_le _ _) hl
theorem comp_ev_all {α β : Type} {e : α → D} {f : β → D} {r : Env} {own : List Nat} {it : I} {tg : Tg} {ts : T} {el : E} {xs : List α} (g : α → β) (hi : it r = some (xs.map e)) (hl : xs.length ≤ 16777216)
    (h : ∀ x ∈ xs, ∃ r1, asg tg (e x) (wipeE r own) = some r1 ∧ ts r1 = some true ∧ el r1 = some (f (g x))) : compI own it tg ts el r = some ((xs.map g).map f) := by
  rw [ev_comp, hi, Option.bind_some, compL_all g xs h, Option.bind_some, fitL_ok]
  rw [List.length_map, List.length_map]
  exact hl
theorem lst_ev {α : Type} {f : α → D} {r : Env} {it : I} {ys : List α} (h : it r = some (ys.map f)) : lstI it r = some (li f ys) := by
  rw [ev_lstI, h]
  rfl
theorem tupl_ev {α : Type} {f : α → D} {r : Env} {it : I} {ys : List α} (h : it r = some (ys.map f)) : tupI (seqI (lstI it)) r = some (tu f ys) := by
  rw [ev_tupI, ev_seq, lst_ev h]
  rfl
theorem if_t {t : T} {a b : S} {r : Env} (h : t r = some true) : sIf t a b r = a r := by
  rw [ev_sIf, h]
  rfl
theorem if_f {t : T} {a b : S} {r : Env} (h : t r = some false) : sIf t a b r = b r := by
  rw [ev_sIf, h]
  rfl
/-- an if that is passed -/
theorem blk_if {t : T} {a : S} {ss : List S} {r : Env} (h : t r = some false) : blk (sIf t a (blk []) :: ss) r = blk ss r := blk_nx (if_f h)
theorem blk_ifr {t : T} {e : E} {b : S} {ss : List S} {r : Env} {d : D} (h : t r = some true) (he : e r = some d) : blk (sIf t (blk [sRet e]) b :: ss) r = some (.rt d) := blk_rt ((if_t h).trans (blk_rt (by rw [ev_sRet, he]; rfl)))
theorem ret_ev {e : E} {r : Env} {d : D} {ss : List S} (he : e r = some d) : blk (sRet e :: ss) r = some (.rt d) := blk_rt (by rw [ev_sRet, he]; rfl)
/-- a loop over range(n) -/
theorem forL_range {tg : Tg} {b : S} (I : Nat → Env → Prop) (n : Nat) (r : Env) (h0 : I 0 r) (hs : ∀ k r, k < n → I k r → ∃ r1 r2, asg tg (.int (k : Int)) r = some r1 ∧ (b r1 = some (.nx r2) ∨ b r1 = some (.ct r2)) ∧ I (k + 1) r2) :
    ∃ r', forL tg b ((List.range n).map fun i : Nat => .int (i : Int)) r = some (.nx r') ∧ I n r' := by
  obtain ⟨r', q1, q2⟩ := forL_all (e := fun i : Nat => PyData.int (i : Int)) (tg := tg) (b := b) (fun done r => I done.length r) (List.range n) [] r h0 (by
    intro done x rest r hd hI
    have hd' : List.range n = done ++ x :: rest := hd
    have hlt : done.length < n := by
      have := congrArg List.length hd'
      simp at this
      omega
    have hx : x = done.length := by
      have := congrArg (fun l => l[done.length]?) hd'
      simp at this
      rw [List.getElem?_range hlt] at this
      exact (Option.some.inj this).symm
    subst hx
    obtain ⟨r1, r2, a, c, d⟩ := hs done.length r hlt hI
    exact ⟨r1, r2, a, c, by rw [List.length_append, List.length_singleton]; exact d⟩)
  refine ⟨r', q1, ?_⟩
  have e : ([] ++ List.range n).length = n := by simp
  rw [e] at q2
  exact q2
end Dm.M
end

section
set_option Elab.async false
set_option linter.all false
set_option autoImplicit true
/-! DEv2: order of the data that encoders make; sorted rows. -/
namespace Dm.M
open PySem PySem.W
class EOrd {α : Type} [DecidableEq α] (e : α → D) where
  lt : α → α → Bool
  dlt : ∀ a b, dataLt (e a) (e b) = lt a b
  alk : ∀ a b, alike (e a) (e b) = true
  nn : ∀ a, isNone (e a) = false
  irr : ∀ a, lt a a = false
  trn : ∀ a b c, lt a b = true → lt b c = true → lt a c = true
  tri : ∀ a b, lt a b = true ∨ a = b ∨ lt b a = true
instance : EOrd PyData.int := ⟨fun a b => decide (a < b), dataLt_int, fun _ _ => rfl, fun _ => rfl, fun a => by simp, fun a b c h1 h2 => by simp at h1 h2 ⊢; omega, fun a b => by simp; omega⟩
section
variable {α β : Type} [DecidableEq α] [DecidableEq β] {e : α → D} {f : β → D} [Enc e] [Enc f] [EOrd e] [EOrd f]
def lexB (lt : α → α → Bool) : List α → List α → Bool
  | [], [] => false
  | [], _ :: _ => true
  | _ :: _, [] => false
  | a :: r, b :: s => if a = b then lexB lt r s else lt a b
theorem dlt_cons (a b : D) (xs ys : List D) (h : alike a b = true) : dataLt (.tuple (a :: xs)) (.tuple (b :: ys)) = if PyData.eqv a b = true then dataLt (.tuple xs) (.tuple ys) else dataLt a b := by
  rw [dataLt_tuple, dataLt_tuple]
  split
  · rename_i q
    exact dataLt_all_yes h q
  · rename_i q
    exact dataLt_all_no h (by simpa using q)
theorem dlt_nil_cons (b : D) (ys : List D) : dataLt (.tuple []) (.tuple (b :: ys)) = true := by
  rw [dataLt_tuple, keyToksAll, keyToksAll, lex_atom (by simp)]
  rfl
theorem dlt_cons_nil (b : D) (ys : List D) : dataLt (.tuple (b :: ys)) (.tuple []) = false := by
  rw [dataLt_tuple, keyToksAll, keyToksAll, lex_atom (by simp)]
  rfl
theorem dlt_nil : dataLt (.tuple []) (.tuple []) = false := by rfl
theorem dlt_tu : ∀ xs ys : List α, dataLt (tu e xs) (tu e ys) = lexB (EOrd.lt e) xs ys
  | [], [] => dlt_nil
  | [], b :: ys => dlt_nil_cons _ _
  | a :: xs, [] => dlt_cons_nil _ _
  | a :: xs, b :: ys => by
    show dataLt (.tuple (e a :: xs.map e)) (.tuple (e b :: ys.map e)) = _
    rw [dlt_cons _ _ _ _ (EOrd.alk a b), Enc.eqv, lexB, ← dlt_tu xs ys, EOrd.dlt (e := e) a b]
    simp only [decide_eq_true_eq]
    rfl
theorem alk_all : ∀ xs ys : List α, alikeAll (xs.map e) (ys.map e) = true
  | [], _ => by simp [alikeAll]
  | _ :: _, [] => by simp [alikeAll]
  | a :: xs, b :: ys => by
    rw [List.map_cons, List.map_cons, alikeAll, EOrd.alk, alk_all xs ys]
    rfl
theorem lexB_irr : ∀ xs : List α, lexB (EOrd.lt e) xs xs = false
  | [] => rfl
  | a :: xs => by rw [lexB, if_pos rfl, lexB_irr xs]
theorem lexB_tri : ∀ xs ys : List α, lexB (EOrd.lt e) xs ys = true ∨ xs = ys ∨ lexB (EOrd.lt e) ys xs = true
  | [], [] => .inr (.inl rfl)
  | [], _ :: _ => .inl rfl
  | _ :: _, [] => .inr (.inr rfl)
  | a :: xs, b :: ys => by
    rw [lexB, lexB]
    by_cases h : a = b
    · subst h
      rw [if_pos rfl, if_pos rfl]
      exact (lexB_tri xs ys).imp id (Or.imp (fun z => by rw [z]) id)
    · rw [if_neg h, if_neg (Ne.symm h)]
      rcases EOrd.tri (e := e) a b with q | q | q
      · exact .inl q
      · exact absurd q h
      · exact .inr (.inr q)
theorem lexB_trn : ∀ xs ys zs : List α, lexB (EOrd.lt e) xs ys = true → lexB (EOrd.lt e) ys zs = true → lexB (EOrd.lt e) xs zs = true
  | [], _, [], h1, h2 => by
    rename_i ys
    cases ys <;> simp [lexB] at h1 h2
  | [], _, _ :: _, _, _ => rfl
  | _ :: _, [], _, h1, _ => by simp [lexB] at h1
  | _ :: _, _ :: _, [], _, h2 => by simp [lexB] at h2
  | a :: xs, b :: ys, c :: zs, h1, h2 => by
    rw [lexB] at h1 h2 ⊢
    by_cases hab : a = b
    · subst hab
      rw [if_pos rfl] at h1
      by_cases hac : a = c
      · rw [if_pos hac] at h2 ⊢
        exact lexB_trn xs ys zs h1 h2
      · rw [if_neg hac] at h2 ⊢
        exact h2
    · rw [if_neg hab] at h1
      by_cases hbc : b = c
      · subst hbc
        rw [if_neg hab]
        exact h1
      · rw [if_neg hbc] at h2
        have h3 := EOrd.trn a b c h1 h2
        by_cases hac : a = c
        · subst hac
          rw [EOrd.irr] at h3
          cases h3
        · rw [if_neg hac]
          exact h3
instance : EOrd (tu e) := ⟨lexB (EOrd.lt e), dlt_tu, fun xs ys => by simp only [tu, alike]; exact alk_all xs ys, fun _ => rfl, lexB_irr, lexB_trn, lexB_tri⟩
def prLt (p q : α × β) : Bool := if p.1 = q.1 then EOrd.lt f p.2 q.2 else EOrd.lt e p.1 q.1
theorem dlt_pr (p q : α × β) : dataLt (pr e f p) (pr e f q) = prLt (e := e) (f := f) p q := by
  show dataLt (.tuple [e p.1, f p.2]) (.tuple [e q.1, f q.2]) = _
  rw [dlt_cons _ _ _ _ (EOrd.alk _ _), dlt_cons _ _ _ _ (EOrd.alk _ _), dlt_nil, EOrd.dlt, EOrd.dlt, Enc.eqv, Enc.eqv]
  unfold prLt
  by_cases h : p.1 = q.1
  · rw [if_pos (decide_eq_true h), if_pos h]
    by_cases h2 : p.2 = q.2
    · rw [if_pos (decide_eq_true h2), h2, EOrd.irr]
    · rw [if_neg (by simp [h2])]
  · rw [if_neg (by simp [h]), if_neg h]
instance : EOrd (pr e f) := ⟨prLt (e := e) (f := f), dlt_pr, fun p q => by simp only [pr, alike, alikeAll, EOrd.alk, Bool.and_self], fun _ => rfl, fun p => by
    unfold prLt
    rw [if_pos rfl, EOrd.irr], fun p q r h1 h2 => by
    unfold prLt at h1 h2 ⊢
    by_cases a : p.1 = q.1
    · rw [if_pos a] at h1
      rw [a]
      by_cases b : q.1 = r.1
      · rw [if_pos b] at h2 ⊢
        exact EOrd.trn _ _ _ h1 h2
      · rw [if_neg b] at h2 ⊢
        exact h2
    · rw [if_neg a] at h1
      by_cases b : q.1 = r.1
      · rw [← b, if_neg a]
        exact h1
      · rw [if_neg b] at h2
        have h3 := EOrd.trn _ _ _ h1 h2
        by_cases c : p.1 = r.1
        · rw [c, EOrd.irr] at h3
          cases h3
        · rw [if_neg c]
          exact h3, fun p q => by
    unfold prLt
    by_cases a : p.1 = q.1
    · rw [if_pos a, if_pos a.symm]
      exact (EOrd.tri (e := f) p.2 q.2).imp id (Or.imp (fun z => Prod.ext a z) id)
    · rw [if_neg a, if_neg (Ne.symm a)]
      exact (EOrd.tri (e := e) p.1 q.1).imp id (Or.imp (fun z => absurd z a) id)⟩
/-! ### sorted -/
variable (e) in
def leE (a b : α) : Bool := !EOrd.lt e b a
variable (e) in
def srt (xs : List α) : List α := xs.mergeSort (leE e)
theorem leE_trans (a b c : α) (h1 : leE e a b = true) (h2 : leE e b c = true) : leE e a c = true := by
  unfold leE at *
  simp only [Bool.not_eq_true'] at *
  cases h : EOrd.lt e c a with
  | false => rfl
  | true =>
    rcases EOrd.tri (e := e) a b with q | q | q
    · rw [EOrd.trn _ _ _ h q] at h2
      cases h2
    · subst q
      rw [h] at h2
      cases h2
    · rw [q] at h1
      cases h1
theorem leE_total (a b : α) : (leE e a b || leE e b a) = true := by
  unfold leE
  cases h : EOrd.lt e b a with
  | false => rfl
  | true =>
    cases h2 : EOrd.lt e a b with
    | false => rfl
    | true =>
      have := EOrd.trn _ _ _ h h2
      rw [EOrd.irr] at this
      cases this
theorem leE_anti (a b : α) (h1 : leE e a b = true) (h2 : leE e b a = true) : a = b := by
  unfold leE at *
  rcases EOrd.tri (e := e) a b with q | q | q
  · rw [q] at h2
    cases h2
  · exact q
  · rw [q] at h1
    cases h1
theorem srt_perm (xs : List α) : (srt e xs).Perm xs := List.mergeSort_perm _ _
theorem mem_srt {xs : List α} {a : α} : a ∈ srt e xs ↔ a ∈ xs := (srt_perm xs).mem_iff
theorem srt_len (xs : List α) : (srt e xs).length = xs.length := (srt_perm xs).length_eq
theorem srt_pair (xs : List α) : (srt e xs).Pairwise fun a b => leE e a b = true := List.pairwise_mergeSort (le := leE e) leE_trans leE_total xs
/-- the sorted row is the one that is in order and has the same items -/
theorem srt_eq {xs ys : List α} (hp : ys.Perm xs) (hy : ys.Pairwise fun a b => leE e a b = true) : srt e xs = ys :=
  List.Perm.eq_of_pairwise (fun a b _ _ h1 h2 => leE_anti a b h1 h2) (srt_pair xs) hy ((srt_perm xs).trans hp.symm)
/-- strictly ascending rows with the same items are the same -/
theorem asc_uni {xs ys : List α} (hx : xs.Pairwise fun a b => EOrd.lt e a b = true) (hy : ys.Pairwise fun a b => EOrd.lt e a b = true) (h : ∀ a, a ∈ xs ↔ a ∈ ys) : xs = ys := by
  have nd : ∀ {zs : List α}, (zs.Pairwise fun a b => EOrd.lt e a b = true) → zs.Nodup := fun hz => hz.imp fun {a b} q z => by
    subst z
    rw [EOrd.irr] at q
    cases q
  have le : ∀ {zs : List α}, (zs.Pairwise fun a b => EOrd.lt e a b = true) → zs.Pairwise fun a b => leE e a b = true := fun hz => hz.imp fun {a b} q => by
    unfold leE
    cases h2 : EOrd.lt e b a with
    | false => rfl
    | true =>
      have := EOrd.trn _ _ _ q h2
      rw [EOrd.irr] at this
      cases this
  exact List.Perm.eq_of_pairwise (fun a b _ _ h1 h2 => leE_anti a b h1 h2) (le hx) (le hy) ((List.perm_ext_iff_of_nodup (nd hx) (nd hy)).mpr h)
theorem srt_asc {xs : List α} (h : xs.Nodup) : (srt e xs).Pairwise fun a b => EOrd.lt e a b = true := by
  refine ((srt_pair xs).and ((srt_perm xs).nodup_iff.mpr h)).imp fun {a b} ⟨q1, q2⟩ => ?_
  rcases EOrd.tri (e := e) a b with q | q | q
  · exact q
  · exact absurd q q2
  · unfold leE at q1
    rw [q] at q1
    cases q1
theorem srt_uni {xs ys : List α} (hn : xs.Nodup) (hy : ys.Pairwise fun a b => EOrd.lt e a b = true) (h : ∀ a, a ∈ xs ↔ a ∈ ys) : srt e xs = ys := asc_uni (srt_asc hn) hy fun a => by rw [mem_srt, h]
theorem sortL_enc (xs : List α) (hp : Enc.n e ≤ 64) (hl : xs.length ≤ 16777216) (hh : headT (xs.map e) = true) : sortL (xs.map e) = some ((srt e xs).map e) := by
  have h1 : sortOk (xs.map e) = true := by
    unfold sortOk
    simp only [List.all_map, List.all_eq_true]
    intro a _
    simp only [Function.comp_apply, Bool.and_eq_true, List.all_eq_true]
    refine ⟨fun b _ => EOrd.alk a b, ?_, plain_enc a hp⟩
    rw [EOrd.nn]
    rfl
  have h3 : lenOk (xs.map e).length = true := lenOk_small (by rw [List.length_map]; exact hl)
  have q : (xs.map e).mergeSort leB = (srt e xs).map e := by
    refine (List.map_mergeSort (fun a _ b _ => ?_)).symm
    show leE e a b = !dataLt (e b) (e a)
    rw [EOrd.dlt]
    rfl
  unfold sortL
  rw [h1, hh, h3, q]
  rfl
theorem sortLD_enc (xs : List α) (hp : Enc.n e ≤ 64) (hl : xs.length ≤ 16777216) (hh : headT (xs.map e) = true) : sortLD (li e xs) = some (li e (srt e xs)) := by
  show (sortL (xs.map e)).map PyData.list = _
  rw [sortL_enc xs hp hl hh]
  rfl
theorem headT_of (xs : List α) (h : ∀ a ∈ xs, emptyT (e a) = false) : headT (xs.map e) = true := by
  unfold headT
  rw [Bool.or_eq_true]
  left
  simp only [List.all_map, List.all_eq_true]
  intro a ha
  simp [h a ha]
theorem headT_nil (xs : List (List α)) : headT (([] :: xs).map (tu e)) = true := by
  unfold headT
  rw [Bool.or_eq_true]
  right
  rfl
end
end Dm.M
end

section
set_option Elab.async false
set_option linter.all false
set_option autoImplicit true
/-! DSets: all sets of the first numbers, in order. -/
namespace Dm.M
open PySem PySem.W
abbrev ltI : List Int → List Int → Bool := lexB (EOrd.lt PyData.int)
theorem ltI_def : EOrd.lt (tu PyData.int) = ltI := rfl
def rgi (n : Nat) : List Int := (List.range n).map fun i : Nat => (i : Int)
theorem rgi_succ (n : Nat) : rgi (n + 1) = rgi n ++ [(n : Int)] := by simp [rgi, List.range_succ]
theorem mem_rgi {n : Nat} {a : Int} : a ∈ rgi n ↔ 0 ≤ a ∧ a < n := by
  unfold rgi
  rw [List.mem_map]
  constructor
  · rintro ⟨i, h, rfl⟩
    have := List.mem_range.mp h
    omega
  · rintro ⟨h1, h2⟩
    exact ⟨a.toNat, by rw [List.mem_range]; omega, by omega⟩
theorem rgi_asc (n : Nat) : (rgi n).Pairwise (· < ·) := by
  unfold rgi
  rw [List.pairwise_map]
  exact List.pairwise_lt_range.imp fun h => by omega
def setsU : Nat → List (List Int)
  | 0 => [[]]
  | n + 1 => setsU n ++ (setsU n).map (· ++ [(n : Int)])
def lexS : List Int → List (List Int)
  | [] => [[]]
  | x :: r => [] :: ((lexS r).map (x :: ·) ++ (lexS r).tail)
theorem lexS_head : ∀ xs : List Int, ∃ t, lexS xs = [] :: t
  | [] => ⟨[], rfl⟩
  | _ :: _ => ⟨_, rfl⟩
theorem sub_snoc {t l : List Int} {n : Int} : t.Sublist (l ++ [n]) ↔ t.Sublist l ∨ ∃ s, s.Sublist l ∧ t = s ++ [n] := by
  rw [List.sublist_append_iff]
  constructor
  · rintro ⟨a, b, rfl, ha, hb⟩
    rcases (show b = [] ∨ b = [n] by cases hb with | cons _ q => cases q; exact .inl rfl | cons_cons _ q => cases q; exact .inr rfl) with rfl | rfl
    · left
      simpa using ha
    · exact .inr ⟨a, ha, rfl⟩
  · rintro (h | ⟨s, hs, rfl⟩)
    · exact ⟨t, [], by simp, h, List.nil_sublist _⟩
    · exact ⟨s, [n], rfl, hs, List.Sublist.refl _⟩
theorem mem_setsU : ∀ (n : Nat) (t : List Int), t ∈ setsU n ↔ t.Sublist (rgi n)
  | 0, t => by simp [setsU, rgi]
  | n + 1, t => by
    rw [setsU, rgi_succ, sub_snoc, List.mem_append, List.mem_map, mem_setsU n]
    constructor
    · rintro (h | ⟨s, hs, rfl⟩)
      · exact .inl h
      · exact .inr ⟨s, (mem_setsU n s).mp hs, rfl⟩
    · rintro (h | ⟨s, hs, rfl⟩)
      · exact .inl h
      · exact .inr ⟨s, (mem_setsU n s).mpr hs, rfl⟩
theorem nodup_map_inj {α β : Type} {f : α → β} (hf : ∀ a b, f a = f b → a = b) {xs : List α} (h : xs.Nodup) : (xs.map f).Nodup := by
  unfold List.Nodup at *
  rw [List.pairwise_map]
  exact h.imp fun q z => q (hf _ _ z)
theorem setsU_nodup : ∀ n, (setsU n).Nodup
  | 0 => by simp [setsU]
  | n + 1 => by
    rw [setsU, List.nodup_append]
    refine ⟨setsU_nodup n, nodup_map_inj (fun a b h => List.append_cancel_right h) (setsU_nodup n), ?_⟩
    rintro a ha b hb rfl
    obtain ⟨s, _, rfl⟩ := List.mem_map.mp hb
    have h1 := (mem_setsU n _).mp ha
    have h2 : (n : Int) ∈ rgi n := h1.subset (by simp)
    have := mem_rgi.mp h2
    omega
theorem mem_lexS : ∀ (xs t : List Int), t ∈ lexS xs ↔ t.Sublist xs
  | [], t => by simp [lexS]
  | x :: r, t => by
    obtain ⟨u, hu⟩ := lexS_head r
    have ih := mem_lexS r
    rw [lexS, hu, List.tail_cons, List.mem_cons, List.mem_append, List.mem_map]
    constructor
    · rintro (rfl | ⟨s, hs, rfl⟩ | h)
      · exact List.nil_sublist _
      · exact ((ih s).mp (by rw [hu]; exact hs)).cons_cons x
      · exact ((ih t).mp (by rw [hu]; exact List.mem_cons_of_mem _ h)).cons x
    · intro h
      cases h with
      | cons _ h =>
        have := (ih t).mpr h
        rw [hu] at this
        rcases List.mem_cons.mp this with q | q
        · exact .inl q
        · exact .inr (.inr q)
      | cons_cons _ h =>
        rename_i s
        exact .inr (.inl ⟨s, by rw [← hu]; exact (ih s).mpr h, rfl⟩)
theorem lexS_asc : ∀ xs : List Int, xs.Pairwise (· < ·) → (lexS xs).Pairwise fun a b => ltI a b = true
  | [], _ => by simp [lexS]
  | x :: r, h => by
    obtain ⟨h1, h2⟩ := List.pairwise_cons.mp h
    have ih := lexS_asc r h2
    obtain ⟨u, hu⟩ := lexS_head r
    have hm := mem_lexS r
    rw [lexS]
    rw [hu] at ih hm ⊢
    obtain ⟨i1, i2⟩ := List.pairwise_cons.mp ih
    rw [List.tail_cons]
    have une : ∀ b ∈ u, ∃ y s, b = y :: s := fun b hb => by
      have := i1 b hb
      cases b with
      | nil => cases this
      | cons y s => exact ⟨y, s, rfl⟩
    refine List.pairwise_cons.mpr ⟨fun b hb => ?_, ?_⟩
    · rcases List.mem_append.mp hb with q | q
      · obtain ⟨s, _, rfl⟩ := List.mem_map.mp q
        rfl
      · exact i1 b q
    · rw [List.pairwise_append]
      refine ⟨?_, i2, ?_⟩
      · rw [List.pairwise_map]
        exact ih.imp fun q => by
          show lexB _ (x :: _) (x :: _) = true
          rw [lexB, if_pos rfl]
          exact q
      · intro a ha b hb
        obtain ⟨s, _, rfl⟩ := List.mem_map.mp ha
        obtain ⟨y, t, rfl⟩ := une b hb
        have h3 : (y :: t).Sublist r := (hm _).mp (List.mem_cons_of_mem _ hb)
        have h4 := h1 y (h3.subset (by simp))
        show lexB _ (x :: s) (y :: t) = true
        rw [lexB, if_neg (by omega)]
        exact decide_eq_true h4
theorem srt_setsU (n : Nat) : srt (tu PyData.int) (setsU n) = lexS (rgi n) :=
  srt_uni (e := tu PyData.int) (setsU_nodup n) (lexS_asc _ (rgi_asc n)) fun a => by rw [mem_setsU, mem_lexS]
theorem setsU_len : ∀ n, (setsU n).length = 2 ^ n
  | 0 => rfl
  | n + 1 => by
    rw [setsU, List.length_append, List.length_map, setsU_len n, Nat.pow_succ]
    omega
theorem setsU_head : ∀ n, ∃ t, setsU n = [] :: t
  | 0 => ⟨[], rfl⟩
  | n + 1 => by
    obtain ⟨t, h⟩ := setsU_head n
    refine ⟨t ++ (setsU n).map (· ++ [(n : Int)]), ?_⟩
    rw [setsU]
    conv => lhs; rw [h]
    rw [h]
    rfl
theorem sort_setsU (n : Nat) (hn : n ≤ 20) : sortLD (li (tu .int) (setsU n)) = some (li (tu .int) (lexS (rgi n))) := by
  rw [sortLD_enc (e := tu PyData.int) (setsU n) (by decide) ?_ ?_, srt_setsU]
  · rw [setsU_len]
    have : 2 ^ n ≤ 2 ^ 20 := Nat.pow_le_pow_right (by decide) hn
    omega
  · obtain ⟨t, h⟩ := setsU_head n
    rw [h]
    exact headT_nil t
end Dm.M
end

section
set_option Elab.async false
set_option linter.all false
set_option autoImplicit true
set_option maxRecDepth 100000
/-! DLaw: the helpers that every law has: cells, draws, equal things. -/
namespace Dm.M
open PySem PySem.W
theorem fdivD_ok (a b : Int) (h : b ≠ 0 ∧ b.natAbs < 1073741824) : fdivD (.int a) (.int b) = some (.int (a.fdiv b)) := by
  show (if decide (b ≠ 0 ∧ b.natAbs < 1073741824) = true then some (PyData.int (a.fdiv b)) else none) = _
  rw [if_pos (decide_eq_true h)]
theorem modD_ok (a b : Int) (h : b ≠ 0) : modD (.int a) (.int b) = some (.int (a.fmod b)) := by
  show (if decide (b ≠ 0) = true then some (PyData.int (a.fmod b)) else none) = _
  rw [if_pos (decide_eq_true h)]
theorem fmod_in (a : Int) {n : Nat} (h : 0 < n) : 0 ≤ a.fmod n ∧ a.fmod n < n := ⟨Int.fmod_nonneg_of_pos _ (by omega), Int.fmod_lt_of_pos _ (by omega)⟩
theorem fmod_inI (a : Int) {n : Int} (h : 0 < n) : 0 ≤ a.fmod n ∧ a.fmod n < n := ⟨Int.fmod_nonneg_of_pos _ h, Int.fmod_lt_of_pos _ h⟩
theorem mulI_ok (a b : Int) (h : -(2 ^ 64) < b ∧ b < 2 ^ 64) : mulI (.int a) (.int b) = some (.int (a * b)) := by
  show (if (small64 a || small64 b) = true then some (PyData.int (a * b)) else none) = _
  have : small64 b = true := decide_eq_true h
  rw [this, Bool.or_true, if_pos rfl]
theorem mulI_ok' (a b : Int) (h : -(2 ^ 64) < a ∧ a < 2 ^ 64) : mulI (.int a) (.int b) = some (.int (a * b)) := by
  show (if (small64 a || small64 b) = true then some (PyData.int (a * b)) else none) = _
  have : small64 a = true := decide_eq_true h
  rw [this, Bool.true_or, if_pos rfl]
theorem op_ev {o : D → D → Option D} {a b : E} {r : Dm.Env} {x y z : D} (ha : a r = some x) (hb : b r = some y) (h : o x y = some z) : opE o a b r = some z := by
  rw [ev_op, ha, hb]
  exact h
theorem op_mod {e : E} {r : Dm.Env} {x n : Int} (he : e r = some (.int x)) (h : n ≠ 0) : opE modD (unE intD e) (kE (.int n)) r = some (.int (x.fmod n)) := by rw [ev_op, ev_un, he, ev_k, Option.bind_some, intD_int, Option.bind_some, Option.bind_some, modD_ok x n h]
theorem atL_pos {α : Type} (xs : List α) {i : Int} (h : 0 ≤ i) : atL xs i = xs[i.toNat]? := by
  unfold atL
  rw [if_pos h]
theorem atL_getD {α : Type} (xs : List α) {i : Int} (d : α) (h : 0 ≤ i) (h1 : i < xs.length) : atL xs i = some (xs.getD i.toNat d) := by
  have h2 : i.toNat < xs.length := by omega
  rw [atL_pos xs h, List.getD, List.getElem?_eq_getElem h2]
  rfl
theorem atL_some {α : Type} {xs : List α} {i : Int} (h : 0 ≤ i) (h1 : i < xs.length) : ∃ x, atL xs i = some x ∧ x ∈ xs := by
  have h2 : i.toNat < xs.length := by omega
  exact ⟨xs[i.toNat], by rw [atL_pos xs h, List.getElem?_eq_getElem h2], List.getElem_mem h2⟩
def Bc_cell : S :=
  (blk [(sIf (trT (opE ltD (vE 1) (unE lenD (vE 0)))) (blk [(sRet (opE ixD (vE 0) (vE 1)))]) (blk [])), (sRet (opE addD (opE mulI (kE (.int 5)) (vE 1)) (kE (.int 3))))])
theorem cell_ok (ns : List Int) (k : Nat) : ∃ c, dDef 2 2 Bc_cell [li .int ns, .int k] = some (.int c) := by
  by_cases h : k < ns.length
  · obtain ⟨c, hc⟩ : ∃ c, ns[k]? = some c := ⟨_, List.getElem?_eq_getElem h⟩
    refine ⟨c, run_def (r0 := [.va (li .int ns), .va (.int k)]) (z := .rt (.int c)) rfl rfl (blk_ifr ?_ ?_)⟩
    · simp [h]
    · simp [hc]
  · refine ⟨5 * (k : Int) + 3, run_def (r0 := [.va (li .int ns), .va (.int k)]) (z := .rt (.int (5 * (k : Int) + 3))) rfl rfl ((blk_if ?_).trans (ret_ev ?_))⟩
    · simp
      omega
    · simp [mulI_ok' 5 (k : Int) (by decide)]
def B_draw1 : S := (blk [(sIf (andT (trT (vE 3)) (trT (opE gtD (vE 2) (kE (.int 0))))) (blk [(sApp 5 (opE modD (unE intD (vE 2)) (kE (.int 5040)))), (sAsg (.nm 2) (opE fdivD (vE 2) (kE (.int 5040))))]) (blk [(sAsg (.nm 7) (opE modD (unE intD (opE addD (opE addD (opE mulI (vE 4) (kE (.int 48271))) (opE mulI (opE addD (vE 6) (kE (.int 1))) (kE (.int 69621)))) (kE (.int 11)))) (kE (.int 2147483647)))), (sAsg (.nm 7) (opE modD (unE intD (opE addD (opE mulI (vE 7) (vE 7)) (opE mulI (kE (.int 40692)) (opE addD (vE 6) (kE (.int 3)))))) (kE (.int 2147483399)))), (sApp 5 (opE modD (unE intD (opE fdivD (vE 7) (kE (.int 64)))) (kE (.int 5040))))]))])
def Bc_draws : S :=
  (blk [(sAsg (.nm 2) (unE absD (unE intD (vE 0)))), (sAsg (.nm 3) (opE geD (vE 2) (opE powD (kE (.int 10)) (kE (.int 18))))), (sAsg (.nm 4) (vE 2)), (sOwn 5 (lstE [])), (sFor (rgI (kE (.int 0)) (vE 1)) (.nm 6) B_draw1), (sRet (bE 5))])
theorem draws_ok (c : Int) (n : Nat) (hn : n ≤ 1000) : ∃ ds : List Int, ds.length = n ∧ (∀ d ∈ ds, 0 ≤ d ∧ d < 5040) ∧ dDef 2 8 Bc_draws [.int c, .int n] = some (li .int ds) := by
  obtain ⟨a, ha⟩ : ∃ a : Int, absD (.int c) = some (.int a) := ⟨_, rfl⟩
  obtain ⟨b, hb⟩ : ∃ b : Bool, opE geD (kE (.int a)) (opE powD (kE (.int 10)) (kE (.int 18))) [] = some (.bool b) := ⟨decide (a ≥ 10 ^ 18), by
    have : powD (.int 10) (.int 18) = some (.int (10 ^ 18)) := rfl
    simp [this]⟩
  have hb' : (powD (.int 10) (.int 18)).bind (geD (.int a)) = some (.bool b) := hb
  have hr : rgI (kE (.int 0)) (vE 1) [.va (.int c), .va (.int n), .va (.int a), .va (.bool b), .va (.int a), .ow (li .int []), .no, .no] = some ((List.range n).map fun i : Nat => .int (i : Int)) := by
    rw [rg_ev (x := 0) (y := (n : Int)) rfl rfl (by omega) (by omega), rangeL_nat]
  obtain ⟨r', q, ds, h1, h2, rest, s6, s7, rfl⟩ := forL_range (tg := .nm 6) (b := B_draw1) (fun k r => ∃ ds : List Int, ds.length = k ∧ (∀ d ∈ ds, 0 ≤ d ∧ d < 5040) ∧ ∃ (rest : Int) (s6 s7 : Slot), r = [.va (.int c), .va (.int n), .va (.int rest), .va (.bool b), .va (.int a), .ow (li .int ds), s6, s7]) n _ ⟨[], rfl, by simp, a, .no, .no, rfl⟩ (by
    rintro k r hk ⟨ds, h1, h2, rest, s6, s7, rfl⟩
    have hok : lenOk (ds.length + 1) = true := lenOk_small (by omega)
    have app : ∀ (e : E) (d : Int) (s2 s7 : Slot), e [.va (.int c), .va (.int n), s2, .va (.bool b), .va (.int a), .ow (li .int ds), .va (.int k), s7] = some (.int d) → sApp 5 e [.va (.int c), .va (.int n), s2, .va (.bool b), .va (.int a), .ow (li .int ds), .va (.int k), s7] = some (.nx [.va (.int c), .va (.int n), s2, .va (.bool b), .va (.int a), .ow (li .int (ds ++ [d])), .va (.int k), s7]) := by
      intro e d s2 s7 he
      rw [ev_sApp, he]
      simp [li, hok]
    have more : ∀ d : Int, (ds ++ [d.fmod 5040]).length = k + 1 ∧ ∀ x ∈ ds ++ [d.fmod 5040], 0 ≤ x ∧ x < 5040 := fun d => ⟨by simp [h1], fun x hx => by
      rcases List.mem_append.mp hx with z | z
      · exact h2 x z
      · have := fmod_inI d (n := 5040) (by decide)
        rw [List.mem_singleton.mp z]
        exact this⟩
    by_cases hc : b = true ∧ rest > 0
    · refine ⟨_, [.va (.int c), .va (.int n), .va (.int (rest.fdiv 5040)), .va (.bool b), .va (.int a), .ow (li .int (ds ++ [rest.fmod 5040])), .va (.int k), s7], rfl, .inl ?_, ds ++ [rest.fmod 5040], (more _).1, (more _).2, _, _, _, rfl⟩
      refine (blk_nx ?_).trans rfl
      refine (if_t ?_).trans ((blk_nx (app _ (rest.fmod 5040) _ _ ?_)).trans ((blk_nx ?_).trans rfl))
      · simp [hc.1, hc.2]
      · simp [modD_ok rest 5040 (by decide)]
      · simp [fdivD_ok rest 5040 (by decide)]
    · obtain ⟨u, hm1⟩ : ∃ u, mulI (.int a) (.int 48271) = some (.int u) := ⟨_, mulI_ok a 48271 (by decide)⟩
      obtain ⟨v, hm2⟩ : ∃ v, mulI (.int ((k : Int) + 1)) (.int 69621) = some (.int v) := ⟨_, mulI_ok ((k : Int) + 1) 69621 (by decide)⟩
      have g := fmod_inI (u + v + 11) (n := 2147483647) (by decide)
      obtain ⟨m, hm⟩ : ∃ m : Int, (u + v + 11).fmod 2147483647 = m := ⟨_, rfl⟩
      rw [hm] at g
      have e3 := mulI_ok m m (by omega)
      obtain ⟨t, e4⟩ : ∃ t, mulI (.int 40692) (.int ((k : Int) + 3)) = some (.int t) := ⟨_, mulI_ok' 40692 ((k : Int) + 3) (by decide)⟩
      obtain ⟨m2, hm2'⟩ : ∃ m2 : Int, (m * m + t).fmod 2147483399 = m2 := ⟨_, rfl⟩
      refine ⟨_, [.va (.int c), .va (.int n), .va (.int rest), .va (.bool b), .va (.int a), .ow (li .int (ds ++ [(m2.fdiv 64).fmod 5040])), .va (.int k), .va (.int m2)], rfl, .inl ?_, ds ++ [(m2.fdiv 64).fmod 5040], (more _).1, (more _).2, _, _, _, rfl⟩
      refine (blk_nx ?_).trans rfl
      refine (if_f ?_).trans ((blk_nx (r1 := [.va (.int c), .va (.int n), .va (.int rest), .va (.bool b), .va (.int a), .ow (li .int ds), .va (.int k), .va (.int m)]) ?_).trans ((blk_nx (r1 := [.va (.int c), .va (.int n), .va (.int rest), .va (.bool b), .va (.int a), .ow (li .int ds), .va (.int k), .va (.int m2)]) ?_).trans ((blk_nx (app _ ((m2.fdiv 64).fmod 5040) _ _ ?_)).trans rfl)))
      · cases b with
        | false => simp
        | true =>
          have : ¬ rest > 0 := fun z => hc ⟨rfl, z⟩
          simp only [ev_and, ev_tr, ev_v, List.set_cons_succ, List.set_cons_zero, List.getElem?_cons_succ, List.getElem?_cons_zero, Option.bind_some, truD_bool, if_true, ev_op, ev_k, gtD_int, this, decide_false]
      · rw [ev_sAsg, op_mod (x := u + v + 11) ?_ (by decide), hm]
        · rfl
        · exact op_ev (op_ev (op_ev rfl rfl hm1) (op_ev (op_ev rfl rfl (addD_int _ _)) rfl hm2) (addD_int _ _)) rfl (addD_int _ _)
      · simp [e3, e4, modD_ok _ 2147483399 (by decide), hm2']
      · simp [fdivD_ok m2 64 (by decide), modD_ok _ 5040 (by decide)])
  refine ⟨ds, h1, h2, run_def (r0 := [.va (.int c), .va (.int n), .no, .no, .no, .no, .no, .no]) (z := .rt (li .int ds)) rfl rfl ((blk_nx (r1 := [.va (.int c), .va (.int n), .va (.int a), .no, .no, .no, .no, .no]) ?_).trans ((blk_nx (r1 := [.va (.int c), .va (.int n), .va (.int a), .va (.bool b), .no, .no, .no, .no]) ?_).trans ((blk_nx (r1 := [.va (.int c), .va (.int n), .va (.int a), .va (.bool b), .va (.int a), .no, .no, .no]) rfl).trans ((blk_nx (r1 := [.va (.int c), .va (.int n), .va (.int a), .va (.bool b), .va (.int a), .ow (li .int []), .no, .no]) rfl).trans ((blk_nx ((for_ev hr).trans q)).trans (ret_ev rfl))))))⟩
  · simp [ha]
  · simp only [ev_sAsg, ev_op, ev_v, ev_k, List.getElem?_cons_succ, List.getElem?_cons_zero, Option.bind_some, hb']
    rfl
end Dm.M
end

section
set_option Elab.async false
set_option linter.all false
set_option maxRecDepth 100000
set_option maxHeartbeats 1000000
set_option autoImplicit true
/-! DInts: rows of ints, sorted, as sets; calls; loops. -/
namespace Dm.M
open PySem PySem.W
abbrev eI : List Int → D := tu .int
abbrev eW : List (List Int) → D := tu (tu .int)
theorem rangeL_sub (n : Nat) : rangeL 0 ((n : Int) - 1) = (List.range (n - 1)).map fun i : Nat => .int (i : Int) := by
  have e : ((n : Int) - 1 - 0).toNat = n - 1 := by omega
  simp [rangeL, e]
/-- two strictly ascending rows with the same ints are the same -/
theorem asc_ext : ∀ {x y : List Int}, x.Pairwise (· < ·) → y.Pairwise (· < ·) → (∀ a, a ∈ x ↔ a ∈ y) → x = y
  | [], [], _, _, _ => rfl
  | [], b :: y, _, _, h => absurd ((h b).mpr List.mem_cons_self) (by simp)
  | a :: x, [], _, _, h => absurd ((h a).mp List.mem_cons_self) (by simp)
  | a :: x, b :: y, hx, hy, h => by
    have hx' := List.pairwise_cons.mp hx
    have hy' := List.pairwise_cons.mp hy
    have e : a = b := by
      rcases List.mem_cons.mp ((h a).mp List.mem_cons_self) with q | q
      · exact q
      · rcases List.mem_cons.mp ((h b).mpr List.mem_cons_self) with q' | q'
        · exact q'.symm
        · have h1 := hy'.1 a q
          have h2 := hx'.1 b q'
          omega
    subst e
    congr 1
    refine asc_ext hx'.2 hy'.2 fun c => ⟨fun q => ?_, fun q => ?_⟩
    · rcases List.mem_cons.mp ((h c).mp (List.mem_cons_of_mem _ q)) with z | z
      · subst z
        exact absurd (hx'.1 c q) (Int.lt_irrefl c)
      · exact z
    · rcases List.mem_cons.mp ((h c).mpr (List.mem_cons_of_mem _ q)) with z | z
      · subst z
        exact absurd (hy'.1 c q) (Int.lt_irrefl c)
      · exact z
theorem mem_dedupI (a : Int) : ∀ xs : List Int, a ∈ dedupI xs ↔ a ∈ xs
  | [] => Iff.rfl
  | x :: xs => by
    unfold dedupI
    split
    · rename_i h
      rw [mem_dedupI a xs]
      exact ⟨List.mem_cons_of_mem _, fun q => (List.mem_cons.mp q).elim (fun z => z ▸ h) id⟩
    · rw [List.mem_cons, List.mem_cons, mem_dedupI a xs]
theorem nodup_dedupI : ∀ xs : List Int, (dedupI xs).Nodup
  | [] => List.nodup_nil
  | x :: xs => by
    unfold dedupI
    split
    · exact nodup_dedupI xs
    · rename_i h
      exact List.nodup_cons.mpr ⟨fun q => h ((mem_dedupI x xs).mp q), nodup_dedupI xs⟩
theorem asc_sort {xs : List Int} (h : xs.Nodup) : (xs.mergeSort fun a b => decide (a ≤ b)).Pairwise (· < ·) := by
  have h1 : (xs.mergeSort fun a b => decide (a ≤ b)).Pairwise (fun a b => decide (a ≤ b) = true) := List.pairwise_mergeSort (fun a b c q1 q2 => by simp at q1 q2 ⊢; omega) (fun a b => by simp; omega) xs
  have h2 : (xs.mergeSort fun a b => decide (a ≤ b)).Nodup := (List.mergeSort_perm xs _).nodup_iff.mpr h
  refine (h1.and h2).imp fun ⟨q1, q2⟩ => ?_
  simp at q1
  omega
theorem mem_sort {xs : List Int} {a : Int} : a ∈ (xs.mergeSort fun a b => decide (a ≤ b)) ↔ a ∈ xs := (List.mergeSort_perm xs _).mem_iff
/-- the ints of ns, each once, in order: any row that ascends and has the same -/
theorem sortSet_eq {ns ys : List Int} (hn : ns.length < 4000) (hy : ys.Pairwise (· < ·)) (hl : ys.length < 64) (h : ∀ a, a ∈ ns ↔ a ∈ ys) : sortSetD (li .int ns) = some (li .int ys) := by
  have e : ((dedupI ns).mergeSort fun a b => decide (a ≤ b)) = ys := asc_ext (asc_sort (nodup_dedupI ns)) hy fun a => by rw [mem_sort, mem_dedupI, h]
  have hlen : (dedupI ns).length < 64 := by
    rw [← e, List.length_mergeSort] at hl
    exact hl
  unfold sortSetD li
  simp only [intsOf_map, decide_eq_true hn, decide_eq_true hlen, Bool.and_self, if_true, e]
theorem nodup_len : ∀ {xs ys : List Int}, xs.Nodup → (∀ a ∈ xs, a ∈ ys) → xs.length ≤ ys.length
  | [], _, _, _ => Nat.zero_le _
  | x :: xs, ys, h, hs => by
    obtain ⟨h1, h2⟩ := List.nodup_cons.mp h
    have hx : x ∈ ys := hs x List.mem_cons_self
    have := nodup_len (xs := xs) (ys := ys.erase x) h2 fun a ha => (List.mem_erase_of_ne (fun e => h1 (by rw [← e]; exact ha))).mpr (hs a (List.mem_cons_of_mem _ ha))
    rw [List.length_erase_of_mem hx] at this
    have := List.length_pos_of_mem hx
    simp
    omega
theorem sortK_eq {K ys : List Int} (f : Int → D) (hn : K.Nodup) (hy : ys.Pairwise (· < ·)) (hl : ys.length < 64) (h : ∀ a, a ∈ K ↔ a ∈ ys) : sortKD (.dict (dI f K)) = some (li .int ys) := by
  have e : (K.mergeSort fun a b => decide (a ≤ b)) = ys := asc_ext (asc_sort hn) hy fun a => by rw [mem_sort, h]
  have hlen : K.length < 64 := by
    rw [← e, List.length_mergeSort] at hl
    exact hl
  unfold sortKD
  simp only [keys_dI, intsOf_map, decide_eq_true hlen, if_true, e]
  rfl
theorem sortL_ints (xs : List Int) (h : xs.length ≤ 16777216) : sortLD (li .int xs) = some (li .int (xs.mergeSort fun a b => decide (a ≤ b))) := by
  have h1 : sortOk (xs.map PyData.int) = true := by
    unfold sortOk
    simp only [List.all_map, List.all_eq_true]
    intro a _
    simp only [Function.comp_apply, Bool.and_eq_true, List.all_eq_true]
    exact ⟨fun b _ => rfl, rfl, rfl⟩
  have h2 : headT (xs.map PyData.int) = true := by
    unfold headT
    rw [Bool.or_eq_true]
    left
    simp only [List.all_map, List.all_eq_true]
    intro a _
    rfl
  have h3 : lenOk (xs.map PyData.int).length = true := lenOk_small (by rw [List.length_map]; exact h)
  have e : (xs.map PyData.int).mergeSort leB = (xs.mergeSort fun a b => decide (a ≤ b)).map .int := by
    refine (List.map_mergeSort (fun a _ b _ => ?_)).symm
    show decide (a ≤ b) = !dataLt (.int b) (.int a)
    rw [dataLt_int, not_lt_dec]
  show (sortL (xs.map PyData.int)).map PyData.list = _
  unfold sortL
  rw [h1, h2, h3, e]
  rfl
theorem sorted_eq {xs ys : List Int} (hx : xs.length ≤ 16777216) (hn : xs.Nodup) (hy : ys.Pairwise (· < ·)) (h : ∀ a, a ∈ xs ↔ a ∈ ys) : sortLD (li .int xs) = some (li .int ys) := by
  rw [sortL_ints xs hx, asc_ext (asc_sort hn) hy fun a => by rw [mem_sort, h]]
theorem call1 {F : List D → Option D} {a : E} {r : Env} {x z : D} (ha : a r = some x) (hF : F [x] = some z) : callE F [a] r = some z := by
  rw [ev_call, ev_args1, ha, ev_args0]
  exact hF
theorem call2 {F : List D → Option D} {a b : E} {r : Env} {x y z : D} (ha : a r = some x) (hb : b r = some y) (hF : F [x, y] = some z) : callE F [a, b] r = some z := by
  rw [ev_call, ev_args1, ha, ev_args1, hb, ev_args0]
  exact hF
theorem call3 {F : List D → Option D} {a b c : E} {r : Env} {x y w z : D} (ha : a r = some x) (hb : b r = some y) (hc : c r = some w) (hF : F [x, y, w] = some z) : callE F [a, b, c] r = some z := by
  rw [ev_call, ev_args1, ha, ev_args1, hb, ev_args1, hc, ev_args0]
  exact hF
theorem forL_nx {tg : Tg} {b : S} {x : D} {xs : List D} {r r1 r2 : Env} (h1 : asg tg x r = some r1) (h2 : b r1 = some (.nx r2)) : forL tg b (x :: xs) r = forL tg b xs r2 := by
  rw [forL_cons, h1, Option.bind_some, h2]
  rfl
theorem cut_tail {α : Type} (x : α) (xs : List α) : cutL (x :: xs) (some 1) none = xs := cutL_from (x :: xs) 1
theorem clampI_neg1 (n : Nat) : clampI n (-1) = n - 1 := by
  unfold clampI
  rw [if_pos (by decide)]
  omega
theorem cut_init {α : Type} (xs : List α) (y : α) : cutL (xs ++ [y]) none (some (-1)) = xs := by
  show ((xs ++ [y]).drop 0).take (clampI (xs ++ [y]).length (-1) - 0) = _
  rw [clampI_neg1]
  simp
theorem cut_mid {α : Type} (x : α) (xs : List α) (y : α) : cutL (x :: (xs ++ [y])) (some 1) (some (-1)) = xs := by
  show ((x :: (xs ++ [y])).drop (clampI (x :: (xs ++ [y])).length ((1 : Nat) : Int))).take (clampI (x :: (xs ++ [y])).length (-1) - clampI (x :: (xs ++ [y])).length ((1 : Nat) : Int)) = _
  rw [clampI_neg1, clampI_nat]
  have e : min 1 (x :: (xs ++ [y])).length = 1 := by simp
  rw [e]
  simp
theorem all_ev {α : Type} {e : α → D} {r : Env} {own : List Nat} {it : I} {tg : Tg} {ts : T} {el : E} {xs : List α} (p : α → Bool) (hi : it r = some (xs.map e))
    (h : ∀ x ∈ xs, ∃ r1, asg tg (e x) (wipeE r own) = some r1 ∧ ts r1 = some true ∧ el r1 = some (.bool (p x))) : allE own it tg ts el r = some (.bool (xs.all p)) := by
  rw [ev_all, hi, Option.bind_some, qL_all p xs h]
  rfl
theorem dedupI_len : ∀ xs : List Int, (dedupI xs).length ≤ xs.length
  | [] => Nat.le_refl _
  | x :: xs => by
    unfold dedupI
    split
    · exact Nat.le_succ_of_le (dedupI_len xs)
    · exact Nat.succ_le_succ (dedupI_len xs)
theorem sortSet_some (ns : List Int) (h : ns.length ≤ 60) : ∃ ys, sortSetD (li .int ns) = some (li .int ys) ∧ ys.Pairwise (· < ·) ∧ ys.length ≤ ns.length := by
  have hl : ((dedupI ns).mergeSort fun a b => decide (a ≤ b)).length ≤ ns.length := by
    rw [List.length_mergeSort]
    exact dedupI_len ns
  exact ⟨_, sortSet_eq (ns := ns) (by omega) (asc_sort (nodup_dedupI ns)) (by omega) (fun a => by rw [mem_sort, mem_dedupI]), asc_sort (nodup_dedupI ns), hl⟩
def optI : Option (List Int) → D
  | none => .none
  | some r => eI r
theorem isi_tu {α : Type} (e : α → D) (xs : List α) (t : Ty) : isiD t (tu e xs) = some (.bool (match t with | .tup => true | _ => false)) := by cases t <;> rfl
theorem isi_int (a : Int) (t : Ty) : isiD t (.int a) = some (.bool (match t with | .int => true | _ => false)) := by cases t <;> rfl
theorem isi_bool (a : Bool) (t : Ty) : isiD t (.bool a) = some (.bool (match t with | .int => true | .bool => true | _ => false)) := by cases t <;> rfl
theorem eqD_bool (a b : Bool) : eqD (.bool a) (.bool b) = some (.bool (decide (a = b))) := eqD_enc (e := PyData.bool) a b
end Dm.M
end

section
set_option Elab.async false
set_option linter.all false
set_option maxRecDepth 100000
set_option maxHeartbeats 1000000
set_option autoImplicit true
/-! DReach: what is reached along links. -/
namespace Dm.M
open PySem PySem.W
/-- one link gone -/
def stepL (K : List Int) (p : Int × Int) : List Int := if p.1 ∈ K then (if p.2 ∈ K then K else K ++ [p.2]) else K
def reach (ls : List (Int × Int)) : Nat → List Int → List Int
  | 0, K => K
  | n + 1, K => reach ls n (ls.foldl stepL K)
theorem stepL_sub (K : List Int) (p : Int × Int) : ∀ a ∈ K, a ∈ stepL K p := by
  intro a ha
  unfold stepL
  split
  · split
    · exact ha
    · exact List.mem_append_left _ ha
  · exact ha
theorem fold_sub : ∀ (ls : List (Int × Int)) (K : List Int), ∀ a ∈ K, a ∈ ls.foldl stepL K
  | [], K, a, h => h
  | p :: ls, K, a, h => fold_sub ls _ a (stepL_sub K p a h)
theorem fold_hit : ∀ (ls : List (Int × Int)) (K : List Int) (p : Int × Int), p ∈ ls → p.1 ∈ K → p.2 ∈ ls.foldl stepL K
  | q :: ls, K, p, h, hp => by
    rcases List.mem_cons.mp h with e | e
    · subst e
      refine fold_sub ls _ _ ?_
      unfold stepL
      rw [if_pos hp]
      split
      · assumption
      · simp
    · exact fold_hit ls _ p e (stepL_sub K q _ hp)
theorem stepL_ok {P : Int → Prop} {K : List Int} {p : Int × Int} (hK : ∀ a ∈ K, P a) (hp : P p.1 → P p.2) : ∀ a ∈ stepL K p, P a := by
  intro a ha
  unfold stepL at ha
  split at ha
  · split at ha
    · exact hK a ha
    · rename_i h1 _
      rcases List.mem_append.mp ha with z | z
      · exact hK a z
      · rw [List.mem_singleton.mp z]
        exact hp (hK _ h1)
  · exact hK a ha
theorem fold_ok {P : Int → Prop} : ∀ {ls : List (Int × Int)} {K : List Int}, (∀ a ∈ K, P a) → (∀ p ∈ ls, P p.1 → P p.2) → ∀ a ∈ ls.foldl stepL K, P a
  | [], K, hK, _ => hK
  | p :: ls, K, hK, hl => fold_ok (ls := ls) (K := stepL K p) (stepL_ok hK (hl p List.mem_cons_self)) fun q hq => hl q (List.mem_cons_of_mem _ hq)
theorem stepL_nodup {K : List Int} {p : Int × Int} (h : K.Nodup) : (stepL K p).Nodup := by
  unfold stepL
  split
  · split
    · exact h
    · rename_i h2
      rw [List.nodup_append]
      refine ⟨h, by simp, fun a ha b hb => ?_⟩
      rw [List.mem_singleton.mp hb]
      exact fun z => h2 (z ▸ ha)
  · exact h
theorem fold_nodup : ∀ {ls : List (Int × Int)} {K : List Int}, K.Nodup → (ls.foldl stepL K).Nodup
  | [], _, h => h
  | p :: ls, K, h => fold_nodup (ls := ls) (K := stepL K p) (stepL_nodup (p := p) h)
theorem reach_nodup {ls : List (Int × Int)} : ∀ {n : Nat} {K : List Int}, K.Nodup → (reach ls n K).Nodup
  | 0, _, h => h
  | n + 1, _, h => reach_nodup (n := n) (fold_nodup h)
/-- what is reached: P is closed, and whatever has P is a start or has a link from something of lesser rank -/
structure Clo (ls : List (Int × Int)) (starts : List Int) (P : Int → Prop) (rk : Int → Nat) : Prop where
  st : ∀ a ∈ starts, P a
  cl : ∀ p ∈ ls, P p.1 → P p.2
  fr : ∀ b, P b → b ∈ starts ∨ ∃ a, (a, b) ∈ ls ∧ P a ∧ rk a < rk b
theorem reach_iff {ls : List (Int × Int)} {starts : List Int} {P : Int → Prop} {rk : Int → Nat} (c : Clo ls starts P rk) : ∀ (n k : Nat) (K : List Int), (∀ a ∈ starts, a ∈ K) → (∀ a ∈ K, P a) → (∀ b, P b → rk b ≤ k → b ∈ K) →
    (∀ a ∈ reach ls n K, P a) ∧ ∀ b, P b → rk b ≤ k + n → b ∈ reach ls n K
  | 0, k, K, _, h2, h3 => ⟨h2, h3⟩
  | n + 1, k, K, h1, h2, h3 => by
    have := reach_iff c n (k + 1) (ls.foldl stepL K) (fun a ha => fold_sub _ _ _ (h1 a ha)) (fold_ok h2 c.cl) (fun b hb hk => by
      rcases c.fr b hb with z | ⟨a, ha, hpa, hlt⟩
      · exact fold_sub _ _ _ (h1 b z)
      · exact fold_hit ls K (a, b) ha (h3 a hpa (by omega)))
    have e : k + 1 + n = k + (n + 1) := by omega
    rw [e] at this
    exact this
def newL (ls : List (Int × Int)) (K : List Int) : List Int := (ls.filter fun p => decide (p.1 ∈ K) && !decide (p.2 ∈ K)).map (·.2)
def addL (ls : List (Int × Int)) (K : List Int) : List Int := K ++ (dedupI (newL ls K)).mergeSort fun a b => decide (a ≤ b)
def aliveL (ls : List (Int × Int)) : Nat → List Int → List Int
  | 0, K => K
  | n + 1, K => aliveL ls n (addL ls K)
theorem mem_newL {ls : List (Int × Int)} {K : List Int} {b : Int} : b ∈ newL ls K ↔ b ∉ K ∧ ∃ a ∈ K, (a, b) ∈ ls := by
  unfold newL
  simp only [List.mem_map, List.mem_filter, Bool.and_eq_true, decide_eq_true_eq, Bool.not_eq_true', decide_eq_false_iff_not]
  constructor
  · rintro ⟨⟨x, y⟩, ⟨h1, h2, h3⟩, rfl⟩
    exact ⟨h3, x, h2, h1⟩
  · rintro ⟨h1, a, h2, h3⟩
    exact ⟨(a, b), ⟨h3, h2, h1⟩, rfl⟩
theorem mem_addL {ls : List (Int × Int)} {K : List Int} {b : Int} : b ∈ addL ls K ↔ b ∈ K ∨ ∃ a ∈ K, (a, b) ∈ ls := by
  unfold addL
  rw [List.mem_append, mem_sort, mem_dedupI, mem_newL]
  constructor
  · rintro (h | ⟨_, h⟩)
    · exact .inl h
    · exact .inr h
  · intro h
    by_cases hb : b ∈ K
    · exact .inl hb
    · exact .inr ⟨hb, h.resolve_left hb⟩
theorem addL_nodup {ls : List (Int × Int)} {K : List Int} (h : K.Nodup) : (addL ls K).Nodup := by
  unfold addL
  rw [List.nodup_append]
  refine ⟨h, (List.mergeSort_perm _ _).nodup_iff.mpr (nodup_dedupI _), fun a ha b hb e => ?_⟩
  rw [mem_sort, mem_dedupI, mem_newL] at hb
  exact hb.1 (e ▸ ha)
theorem aliveL_nodup {ls : List (Int × Int)} : ∀ {n : Nat} {K : List Int}, K.Nodup → (aliveL ls n K).Nodup
  | 0, _, h => h
  | n + 1, _, h => aliveL_nodup (n := n) (addL_nodup h)
theorem alive_iff {ls : List (Int × Int)} {starts : List Int} {P : Int → Prop} {rk : Int → Nat} (c : Clo ls starts P rk) : ∀ (n k : Nat) (K : List Int), (∀ a ∈ starts, a ∈ K) → (∀ a ∈ K, P a) → (∀ b, P b → rk b ≤ k → b ∈ K) →
    (∀ a ∈ aliveL ls n K, P a) ∧ ∀ b, P b → rk b ≤ k + n → b ∈ aliveL ls n K
  | 0, k, K, _, h2, h3 => ⟨h2, h3⟩
  | n + 1, k, K, h1, h2, h3 => by
    have := alive_iff c n (k + 1) (addL ls K) (fun a ha => mem_addL.mpr (.inl (h1 a ha))) (fun a ha => by
      rcases mem_addL.mp ha with z | ⟨x, hx, hl⟩
      · exact h2 a z
      · exact c.cl (x, a) hl (h2 x hx)) (fun b hb hk => by
      rcases c.fr b hb with z | ⟨a, ha, hpa, hlt⟩
      · exact mem_addL.mpr (.inl (h1 b z))
      · exact mem_addL.mpr (.inr ⟨a, h3 a hpa (by omega), ha⟩))
    have e : k + 1 + n = k + (n + 1) := by omega
    rw [e] at this
    exact this
theorem start0 {ls : List (Int × Int)} {starts : List Int} {P : Int → Prop} {rk : Int → Nat} (c : Clo ls starts P rk) : ∀ b, P b → rk b ≤ 0 → b ∈ starts := fun b hb hk => by
  rcases c.fr b hb with z | ⟨a, _, _, hlt⟩
  · exact z
  · omega
theorem mem_reach {ls : List (Int × Int)} {starts : List Int} {P : Int → Prop} {rk : Int → Nat} (c : Clo ls starts P rk) (n : Nat) (hn : ∀ b, P b → rk b ≤ n) (a : Int) : a ∈ reach ls n starts ↔ P a := by
  obtain ⟨h1, h2⟩ := reach_iff c n 0 starts (fun a h => h) c.st (start0 c)
  exact ⟨h1 a, fun h => h2 a h (by have := hn a h; omega)⟩
theorem mem_alive {ls : List (Int × Int)} {starts : List Int} {P : Int → Prop} {rk : Int → Nat} (c : Clo ls starts P rk) (n : Nat) (hn : ∀ b, P b → rk b ≤ n) (a : Int) : a ∈ aliveL ls n starts ↔ P a := by
  obtain ⟨h1, h2⟩ := alive_iff c n 0 starts (fun a h => h) c.st (start0 c)
  exact ⟨h1 a, fun h => h2 a h (by have := hn a h; omega)⟩
abbrev eL : List (Int × Int) → D := tu (pr .int .int)
def tt : Int → D := fun _ => .bool true
theorem stepL_len (K : List Int) (p : Int × Int) : (stepL K p).length ≤ K.length + 1 := by
  unfold stepL
  split
  · split
    · omega
    · simp
  · omega
theorem fold_len : ∀ (ls : List (Int × Int)) (K : List Int), (ls.foldl stepL K).length ≤ K.length + ls.length
  | [], K => by simp
  | p :: ls, K => by
    have h1 := fold_len ls (stepL K p)
    have h2 := stepL_len K p
    simp only [List.foldl_cons, List.length_cons]
    omega
theorem reach_succ (ls : List (Int × Int)) : ∀ (n : Nat) (K : List Int), reach ls (n + 1) K = (reach ls n K).foldl (fun K _ => K) (ls.foldl stepL (reach ls n K))
  | 0, K => by
    have : ∀ (xs : List Int) (a : List Int), xs.foldl (fun K _ => K) a = a := fun xs => by induction xs with
      | nil => intro a; rfl
      | cons x xs ih => intro a; exact ih a
    rw [this]
    rfl
  | n + 1, K => by
    show reach ls (n + 1) (ls.foldl stepL K) = _
    rw [reach_succ ls n]
    rfl
theorem foldl_skip (xs : List Int) (a : List Int) : xs.foldl (fun (K : List Int) _ => K) a = a := by
  induction xs with
  | nil => rfl
  | cons x xs ih => exact ih
theorem reach_snoc (ls : List (Int × Int)) (n : Nat) (K : List Int) : reach ls (n + 1) K = ls.foldl stepL (reach ls n K) := by rw [reach_succ, foldl_skip]
theorem put_tt (K : List Int) (p : Int × Int) (h : p.1 ∈ K) : putD (dI tt K) (.int p.2) (.bool true) = dI tt (stepL K p) := by
  rw [putD_dI]
  unfold stepL
  rw [if_pos h]
  exact dI_congr fun k _ => by simp [tt]
theorem dcomp_in (r0 r1 r2 r3 r4 r5 r6 r7 : Slot) : ∀ (xs acc : List Int), (acc ++ xs).Nodup → acc.length + xs.length ≤ 1000000 → dcompL [r0, r1, r2, r3, r4, r5, r6, r7] (.nm 7) noT (vE 7) (kE (.bool true)) (dI tt acc) (xs.map .int) = some (dI tt (acc ++ xs))
  | [], acc, _, _ => by
    rw [List.append_nil]
    rfl
  | x :: xs, acc, hn, hl => by
    have hx : x ∉ acc := fun q => by
      rw [List.nodup_append] at hn
      exact hn.2.2 x q x List.mem_cons_self rfl
    have ih := dcomp_in r0 r1 r2 r3 r4 r5 r6 r7 xs (acc ++ [x]) (by rw [List.append_assoc]; exact hn) (by simp at hl ⊢; omega)
    have hok : lenOk (acc.length + 1) = true := lenOk_small (by simp at hl; omega)
    rw [List.append_assoc] at ih
    rw [List.map_cons, dcompL]
    have e : dI tt (acc ++ [x]) = putD (dI tt acc) (.int x) (.bool true) := by
      rw [putD_new tt acc x _ hx, dI_snoc]
      rfl
    rw [e] at ih
    simp [flatK, len_dI, hok]
    exact ih
theorem aliveL_snoc (ls : List (Int × Int)) : ∀ (n : Nat) (K : List Int), aliveL ls (n + 1) K = addL ls (aliveL ls n K)
  | 0, K => rfl
  | n + 1, K => by
    show aliveL ls (n + 1) (addL ls K) = _
    rw [aliveL_snoc ls n]
    rfl
theorem newL_len (ls : List (Int × Int)) (K : List Int) : (newL ls K).length ≤ ls.length := by
  unfold newL
  rw [List.length_map]
  exact List.length_filter_le _ _
theorem aliveL_in {ls : List (Int × Int)} {zs : List Int} (hls : ∀ p ∈ ls, p.2 ∈ zs) : ∀ (n : Nat) (K : List Int), (∀ a ∈ K, a ∈ zs) → ∀ a ∈ aliveL ls n K, a ∈ zs
  | 0, _, h => h
  | n + 1, K, h => aliveL_in hls n (addL ls K) fun a ha => by
    rcases mem_addL.mp ha with z | ⟨x, _, hx⟩
    · exact h a z
    · exact hls (x, a) hx
end Dm.M
end

section
set_option Elab.async false
set_option linter.all false
set_option maxRecDepth 100000
set_option maxHeartbeats 1000000
set_option autoImplicit true
/-! DParc: parcels, the plain facts. -/
namespace Dm.M
open PySem PySem.W
def down (n : Nat) : List Int := (List.range (n + 1)).map fun i : Nat => (n : Int) - 1 - (i : Int)
def prodN {α : Type} : List (List α) → List (List Int)
  | [] => [[]]
  | a :: r => (down a.length).flatMap fun n => (prodN r).map (n :: ·)
abbrev Need := Int × List Int
def areMet (needs : List Need) (ns : List Int) : Bool := needs.all fun p => decide (ns.getD p.1.toNat 0 ∈ p.2)
def isChoice (ps : List (List (List Need))) (ws : List Need) (ns : List Int) : Bool :=
  decide (ns.length = ps.length) && ((ns.zip ps).all fun p => decide (-1 ≤ p.1) && decide (p.1 < p.2.length)) && areMet ws ns && ((ns.zip ps).all fun p => decide (p.1 = -1) || areMet (p.2.getD p.1.toNat []) ns)
theorem zip_all {α β : Type} (p : α × β → Bool) (d : α) (e : β) : ∀ (xs : List α) (ys : List β), xs.length = ys.length → ((xs.zip ys).all p = true ↔ ∀ t, t < ys.length → p (xs.getD t d, ys.getD t e) = true)
  | [], [], _ => by simp
  | x :: xs, y :: ys, h => by
    have ih := zip_all p d e xs ys (by simpa using h)
    rw [List.zip_cons_cons, List.all_cons, Bool.and_eq_true, ih]
    constructor
    · rintro ⟨h1, h2⟩ t ht
      cases t with
      | zero => simpa using h1
      | succ t => simpa using h2 t (by simpa using ht)
    · intro k
      refine ⟨by simpa using k 0 (by simp), fun t ht => by simpa using k (t + 1) (by simpa using ht)⟩
  | [], _ :: _, h => by simp at h
  | _ :: _, [], h => by simp at h
abbrev eN : Need → D := pr .int (tu .int)
abbrev eNs : List Need → D := tu eN
abbrev eP : List (List (List Need)) → D := tu (tu (tu eN))
/-- what is needed is there -/
def Inside (ps : List (List (List Need))) (ws : List Need) : Prop := (∀ p ∈ ws, 0 ≤ p.1 ∧ p.1 < ps.length) ∧ ∀ a ∈ ps, ∀ v ∈ a, ∀ p ∈ v, 0 ≤ p.1 ∧ p.1 < ps.length
def cf (ps : List (List (List Need))) (ws : List Need) (begun : List Int) : List (List Int) := ((prodN (ps.drop begun.length)).map (begun ++ ·)).filter (isChoice ps ws)
theorem down_len (n : Nat) : (down n).length = n + 1 := by simp [down]
theorem prodN_len {α : Type} : ∀ (ps : List (List α)), (∀ a ∈ ps, a.length ≤ 3) → (prodN ps).length ≤ 4 ^ ps.length
  | [], _ => by simp [prodN]
  | a :: r, h => by
    have ih := prodN_len r fun b hb => h b (List.mem_cons_of_mem _ hb)
    have ha := h a List.mem_cons_self
    rw [prodN]
    have : ∀ xs : List Int, (xs.flatMap fun n => (prodN r).map (n :: ·)).length = xs.length * (prodN r).length := by
      intro xs
      induction xs with
      | nil => simp
      | cons x xs ih => rw [List.flatMap_cons, List.length_append, ih, List.length_map, List.length_cons, Nat.succ_mul, Nat.add_comm]
    rw [this, down_len, List.length_cons, Nat.pow_succ', ]
    exact Nat.mul_le_mul (by omega) ih
theorem cf_len {ps : List (List (List Need))} {ws : List Need} (h3 : ∀ a ∈ ps, a.length ≤ 3) (h5 : ps.length ≤ 5) (begun : List Int) : (cf ps ws begun).length ≤ 1024 := by
  unfold cf
  refine Nat.le_trans (List.length_filter_le _ _) ?_
  rw [List.length_map]
  refine Nat.le_trans (prodN_len _ fun a ha => h3 a (List.mem_of_mem_drop ha)) ?_
  have : 4 ^ (ps.drop begun.length).length ≤ 4 ^ 5 := Nat.pow_le_pow_right (by decide) (by rw [List.length_drop]; omega)
  omega
theorem cf_step {ps : List (List (List Need))} {ws : List Need} {begun : List Int} {a : List (List Need)} (ha : ps[begun.length]? = some a) : cf ps ws begun = (down a.length).flatMap fun n => cf ps ws (begun ++ [n]) := by
  obtain ⟨hb, hb2⟩ := List.getElem?_eq_some_iff.mp ha
  have e : ps.drop begun.length = a :: ps.drop (begun.length + 1) := by
    rw [List.drop_eq_getElem_cons hb, hb2]
  unfold cf
  rw [e, prodN, List.map_flatMap, List.filter_flatMap]
  congr 1
  funext n
  rw [List.length_append, List.length_singleton, List.map_map]
  congr 2
  funext t
  simp
/-- parcels that the law makes -/
structure Pa (ps : List (List (List Need))) : Prop where
  s3 : ∀ a ∈ ps, a.length ≤ 3
  l5 : ps.length ≤ 5
def sub (ws : List Need) (places : List Int) : List Need := places.map fun i => ws.getD i.toNat (0, [])
def Within (n : Nat) (places : List Int) : Prop := ∀ i ∈ places, 0 ≤ i ∧ i < n
theorem sub_mem {ws : List Need} {places : List Int} (h : Within ws.length places) {p : Need} (hp : p ∈ sub ws places) : p ∈ ws := by
  obtain ⟨i, hi, rfl⟩ := List.mem_map.mp hp
  obtain ⟨h1, h2⟩ := h i hi
  have : i.toNat < ws.length := by omega
  simp [List.getD, List.getElem?_eq_getElem this]
theorem sub_inside {ps : List (List (List Need))} {ws : List Need} (hi : Inside ps ws) {places : List Int} (h : Within ws.length places) : Inside ps (sub ws places) := ⟨fun p hp => hi.1 p (sub_mem h hp), hi.2⟩
def has (ps : List (List (List Need))) (ws : List Need) (places : List Int) : Bool := !(cf ps (sub ws places) []).isEmpty
def fewer (places : List Int) : List (List Int) := places.map fun x => places.filter fun y => !decide (y = x)
def isQ (ps : List (List (List Need))) (ws : List Need) (places : List Int) : Bool := !has ps ws places && (fewer places).all (has ps ws)
theorem prodN_congr {α β : Type} : ∀ (xs : List (List α)) (ys : List (List β)), xs.map List.length = ys.map List.length → prodN xs = prodN ys
  | [], [], _ => rfl
  | [], _ :: _, h => by simp at h
  | _ :: _, [], h => by simp at h
  | a :: r, b :: s, h => by
    simp only [List.map_cons, List.cons.injEq] at h
    rw [prodN, prodN, h.1, prodN_congr r s h.2]
theorem cf_nil (ps : List (List (List Need))) (S : List Need) : cf ps S [] = (prodN ps).filter (isChoice ps S) := by simp [cf]
theorem choice_less {ps : List (List (List Need))} {S T : List Need} {ns : List Int} (h : ∀ p ∈ T, p ∈ S) (hc : isChoice ps S ns = true) : isChoice ps T ns = true := by
  unfold isChoice at *
  simp only [Bool.and_eq_true] at *
  refine ⟨⟨hc.1.1, ?_⟩, hc.2⟩
  unfold areMet at *
  rw [List.all_eq_true] at *
  exact fun p hp => (List.all_eq_true.mp hc.1.2) p (h p hp)
end Dm.M
end

section
set_option Elab.async false
set_option linter.all false
set_option maxRecDepth 100000
set_option maxHeartbeats 1000000
set_option autoImplicit true
/-! TLaw: equal things. -/
namespace Dm.M
open PySem PySem.W
theorem is_integer_eq (a : Int) : F__law_is_integer [.int a] = some (.bool true) := by
  refine run_def (z := .rt (.bool true)) rfl rfl (blk_rt ?_)
  simp [isi_int]
theorem law_is_int (n : Nat) (a : Int) : R__law_is (n + 1) [.int a, .int a] = some (.bool true) := by
  refine run_def (z := .rt (.bool true)) rfl rfl ?_
  simp [B__law_is, isi_int, is_integer_eq]
theorem law_is_bool (n : Nat) (a : Bool) : R__law_is (n + 1) [.bool a, .bool a] = some (.bool true) := by
  refine run_def (z := .rt (.bool true)) rfl rfl ?_
  have : isNone (.bool a) = false := rfl
  simp [B__law_is, isi_bool, eqD_bool, this]
theorem law_is_none (n : Nat) : R__law_is (n + 1) [.none, .none] = some (.bool true) := by
  refine run_def (z := .rt (.bool true)) rfl rfl ?_
  simp [B__law_is]
theorem law_is_row (n : Nat) (xs : List Int) (h : xs.length ≤ 1000) : R__law_is (n + 2) [eI xs, eI xs] = some (.bool true) := by
  refine run_def (r0 := [.va (eI xs), .va (eI xs), .no]) (z := .rt (.bool true)) rfl rfl ?_
  have hr : rgI (kE (.int 0)) (unE lenD (vE 1)) [.va (eI xs), .va (eI xs), .no] = some ((List.range xs.length).map fun n : Nat => .int (n : Int)) := by
    rw [rg_ev (x := 0) (y := (xs.length : Int)) (by simp) (by simp) (by omega) (by omega), rangeL_nat]
  have hc := comp_ev_all (e := fun n : Nat => PyData.int (n : Int)) (f := PyData.bool) (own := [2]) (tg := .nm 2) (ts := noT) (el := callE (R__law_is (n + 1)) [(opE ixD (vE 0) (vE 2)), (opE ixD (vE 1) (vE 2))]) (fun _ => true) hr (by simp; omega) (fun i hi => by
    have hi' : i < xs.length := List.mem_range.mp hi
    have hg : xs[i]? = some xs[i] := List.getElem?_eq_getElem hi'
    refine ⟨_, rfl, rfl, ?_⟩
    simp [hg, law_is_int])
  have hl := lst_ev hc
  refine (blk_if (by simp)).trans ((blk_if (by simp [isi_tu])).trans ((blk_if (by simp [isi_tu])).trans ((blk_if (by simp [isi_tu])).trans ((blk_if (by simp [isi_tu])).trans (ret_ev ?_)))))
  rw [ev_un, hl, Option.bind_some, allLD_bools]
  simp
theorem is_row (xs : List Int) (h : xs.length ≤ 1000) : F__law_is [eI xs, eI xs] = some (.bool true) := law_is_row 28 xs h
theorem is_int (a : Int) : F__law_is [.int a, .int a] = some (.bool true) := law_is_int 29 a
theorem is_bool (a : Bool) : F__law_is [.bool a, .bool a] = some (.bool true) := law_is_bool 29 a
theorem is_none : F__law_is [.none, .none] = some (.bool true) := law_is_none 29
theorem is_opt (o : Option (List Int)) (h : ∀ r, o = some r → r.length ≤ 1000) : F__law_is [optI o, optI o] = some (.bool true) := by
  cases o with
  | none => exact is_none
  | some r => exact is_row r (h r rfl)
end Dm.M
end

section
set_option Elab.async false
set_option linter.all false
set_option maxRecDepth 100000
set_option maxHeartbeats 1000000
set_option autoImplicit true
/-! TIs: rows of ints. -/
namespace Dm.M
open PySem PySem.W
theorem is_integers_eq (xs : List Int) (h : xs.length ≤ 1000) : F__law_is_integers [eI xs] = some (.bool true) := by
  refine run_def (r0 := [.va (eI xs), .no]) (z := .rt (.bool true)) rfl rfl (ret_ev ?_)
  have hc := comp_ev_all (e := PyData.int) (f := PyData.bool) (own := [1]) (it := seqI (vE 0)) (tg := .nm 1) (ts := noT) (el := callE F__law_is_integer [(vE 1)]) (r := [.va (eI xs), .no]) (xs := xs) (fun _ => true) (by simp) (by omega) (fun i hi => ⟨_, rfl, rfl, by simp [is_integer_eq]⟩)
  have hl := lst_ev hc
  simp only [ev_andE, ev_un, ev_v, List.getElem?_cons_zero, Option.bind_some, isi_tu, truD_bool, if_true, hl, allLD_bools]
  simp
end Dm.M
end

section
set_option Elab.async false
set_option linter.all false
set_option maxRecDepth 100000
set_option maxHeartbeats 1000000
set_option autoImplicit true
/-! TCells: cells. -/
namespace Dm.M
open PySem PySem.W
def B_round : S := blk [(sIf (trT (opE inD (vE 5) (bE 3))) (blk [(sPut 3 (vE 6) (kE (.bool true)))]) (blk []))]
theorem round_in (ls : List (Int × Int)) (K : List Int) (hb : K.length + ls.length ≤ 1000000) (s0 s1 s2 s4 s5 s6 s7 : Slot) :
    ∃ s5' s6', forL (.tp [.nm 5, .nm 6]) B_round (ls.map (pr .int .int)) [s0, s1, s2, .ow (.dict (dI tt K)), s4, s5, s6, s7] = some (.nx [s0, s1, s2, .ow (.dict (dI tt (ls.foldl stepL K))), s4, s5', s6', s7]) := by
  have := forL_all (e := pr PyData.int PyData.int) (tg := .tp [.nm 5, .nm 6]) (b := B_round) (fun done r => ∃ s5' s6', r = [s0, s1, s2, .ow (.dict (dI tt (done.foldl stepL K))), s4, s5', s6', s7]) ls [] [s0, s1, s2, .ow (.dict (dI tt K)), s4, s5, s6, s7] ⟨s5, s6, rfl⟩ ?_
  · obtain ⟨r', h1, a, b, rfl⟩ := this
    exact ⟨a, b, h1⟩
  · rintro done x rest r hd ⟨s5', s6', rfl⟩
    have hd' : ls = done ++ x :: rest := hd
    have hl := fold_len done K
    have hok : lenOk ((done.foldl stepL K).length + 1) = true := lenOk_small (by
      rw [hd', List.length_append] at hb
      omega)
    generalize hK : done.foldl stepL K = K' at *
    refine ⟨_, _, ev_pr _ _ _ _ _ _, .inl ?_, .va (.int x.1), .va (.int x.2), by rw [List.foldl_append, hK]⟩
    have e : [x].foldl stepL K' = stepL K' x := rfl
    rw [e]
    by_cases h : x.1 ∈ K'
    · refine blk_nx ((if_t (by simp [inD_dI, h])).trans ?_)
      simp [fitsK_dI, len_dI, hok, put_tt K' x h]
    · have : stepL K' x = K' := by
        unfold stepL
        rw [if_neg h]
      rw [this]
      exact blk_nx ((if_f (by simp [inD_dI, h])).trans rfl)
theorem reached_eq (n : Nat) (ls : List (Int × Int)) (starts : List Int) (hn : n ≤ 1000) (hs : starts.Nodup) (hb : starts.length + n * ls.length ≤ 900000) (hl : ls.length ≤ 1000) : F_reached_from [.int n, eL ls, eI starts] = some (.dict (dI tt (reach ls n starts))) := by
  have hlen : ∀ k, (reach ls k starts).length ≤ starts.length + k * ls.length := fun k => by
    induction k with
    | zero => simp [reach]
    | succ k ih =>
      rw [reach_snoc, Nat.succ_mul]
      have := fold_len ls (reach ls k starts)
      omega
  have := forL_all (e := fun i : Nat => PyData.int (i : Int)) (tg := .nm 4) (b := blk [(sFor (seqI (vE 1)) (.tp [(.nm 5), (.nm 6)]) B_round)])
    (fun done r => ∃ s4 s5 s6, r = [.va (.int n), .va (eL ls), .va (eI starts), .ow (.dict (dI tt (reach ls done.length starts))), s4, s5, s6, .no]) (List.range n) [] [.va (.int n), .va (eL ls), .va (eI starts), .ow (.dict (dI tt starts)), .no, .no, .no, .no] ⟨_, _, _, rfl⟩ ?_
  · obtain ⟨r', q, s4, s5, s6, rfl⟩ := this
    have hd := dcomp_in (.va (.int n)) (.va (eL ls)) (.va (eI starts)) .no .no .no .no .no starts [] hs (by simp; omega)
    have hr : rgI (kE (.int 0)) (vE 0) [.va (.int n), .va (eL ls), .va (eI starts), .ow (.dict (dI tt starts)), .no, .no, .no, .no] = some ((List.range n).map fun n : Nat => .int (n : Int)) := by
      rw [rg_ev (x := 0) (y := (n : Int)) (by simp) (by simp) (by omega) (by omega), rangeL_nat]
    have ed : dcompE [7] (seqI (vE 2)) (.nm 7) noT (vE 7) (kE (.bool true)) [.va (.int n), .va (eL ls), .va (eI starts), .no, .no, .no, .no, .no] = some (.dict (dI tt starts)) := by
      show (dcompL [.va (.int n), .va (eL ls), .va (eI starts), .no, .no, .no, .no, .no] (.nm 7) noT (vE 7) (kE (.bool true)) (dI tt []) (starts.map .int)).bind (fun z => some (PyData.dict z)) = _
      rw [hd]
      rfl
    have hlr : ([] ++ List.range n).length = n := by simp
    rw [hlr] at q
    refine run_def (r0 := [.va (.int n), .va (eL ls), .va (eI starts), .no, .no, .no, .no, .no]) (z := .rt (.dict (dI tt (reach ls n starts)))) rfl rfl ((blk_nx (r1 := [.va (.int n), .va (eL ls), .va (eI starts), .ow (.dict (dI tt starts)), .no, .no, .no, .no]) ?_).trans ((blk_nx ((for_ev hr).trans q)).trans (ret_ev rfl)))
    rw [ev_sOwn, ed]
    rfl
  · rintro done x rest r hd ⟨s4, s5, s6, rfl⟩
    have hdl : done.length ≤ n := by
      have := congrArg List.length hd
      simp at this
      omega
    have hkl : (reach ls done.length starts).length ≤ 900000 := by
      refine Nat.le_trans (hlen done.length) (Nat.le_trans ?_ hb)
      have := Nat.mul_le_mul_right ls.length hdl
      omega
    obtain ⟨s5', s6', hi⟩ := round_in ls (reach ls done.length starts) (by omega) (.va (.int n)) (.va (eL ls)) (.va (eI starts)) (.va (.int x)) s5 s6 .no
    refine ⟨_, _, rfl, .inl ?_, .va (.int x), s5', s6', by rw [List.length_append, List.length_singleton, reach_snoc]⟩
    exact (blk_nx ((for_ev (xs := ls.map (pr .int .int)) rfl).trans hi)).trans rfl
theorem alive_cells_eq {n : Nat} {ls : List (Int × Int)} {starts ys : List Int} (hn : n ≤ 1000) (hs : starts.Nodup) (hb : starts.length + n * ls.length ≤ 900000) (hl : ls.length ≤ 1000)
    (hy : ys.Pairwise (· < ·)) (hyl : ys.length < 64) (h : ∀ a, a ∈ reach ls n starts ↔ a ∈ ys) : F_alive_cells [.int n, eL ls, eI starts] = some (eI ys) := by
  refine run_def (r0 := [.va (.int n), .va (eL ls), .va (eI starts)]) (z := .rt (eI ys)) rfl rfl (ret_ev ?_)
  have e1 : callE F_reached_from [(vE 0), (vE 1), (vE 2)] [.va (.int n), .va (eL ls), .va (eI starts)] = some (.dict (dI tt (reach ls n starts))) := reached_eq n ls starts hn hs hb hl
  rw [ev_tupI, ev_seq, ev_un, e1, Option.bind_some, sortK_eq tt (reach_nodup hs) hy hyl h]
  rfl
end Dm.M
end

section
set_option Elab.async false
set_option linter.all false
set_option maxRecDepth 100000
set_option maxHeartbeats 1000000
set_option autoImplicit true
/-! TParc: what the defs of parcels answer. -/
namespace Dm.M
open PySem PySem.W
theorem are_met_eq (needs : List Need) (ns : List Int) (h : ∀ p ∈ needs, 0 ≤ p.1 ∧ p.1 < ns.length) : F_are_met [eNs needs, eI ns] = some (.bool (areMet needs ns)) := by
  refine run_def (r0 := [.va (eNs needs), .va (eI ns), .no, .no]) (z := .rt (.bool (areMet needs ns))) rfl rfl (ret_ev ?_)
  refine all_ev (e := eN) (fun p : Need => decide (ns.getD p.1.toNat 0 ∈ p.2)) rfl fun p hp => ?_
  obtain ⟨h1, h2⟩ := h p hp
  refine ⟨_, ev_pr _ _ _ _ _ _, rfl, ?_⟩
  simp [atL_getD ns 0 h1 h2]
theorem is_choice_eq (ps : List (List (List Need))) (ws : List Need) (hi : Inside ps ws) (ns : List Int) : F_is_choice [eP ps, eNs ws, eI ns] = some (.bool (isChoice ps ws ns)) := by
  unfold isChoice
  by_cases h1 : ns.length = ps.length
  · have c2 : allE [3, 4] (zipI (vE 2) (vE 0)) (.tp [(.nm 3), (.nm 4)]) noT (chE leD ltD (unE negD (kE (.int 1))) (vE 3) (unE lenD (vE 4))) [.va (eP ps), .va (eNs ws), .va (eI ns), .no, .no] = some (.bool ((ns.zip ps).all fun p => decide (-1 ≤ p.1) && decide (p.1 < p.2.length))) := by
      refine all_ev (e := pr PyData.int (tu (tu eN))) (fun p : Int × List (List Need) => decide (-1 ≤ p.1) && decide (p.1 < p.2.length)) (by simp) fun p hp => ⟨_, ev_pr _ _ _ _ _ _, rfl, ?_⟩
      by_cases hk : -1 ≤ p.1 <;> simp [hk]
    have c3 : callE F_are_met [(vE 1), (vE 2)] [.va (eP ps), .va (eNs ws), .va (eI ns), .no, .no] = some (.bool (areMet ws ns)) := call2 (x := eNs ws) (y := eI ns) rfl rfl (are_met_eq ws ns (by rw [h1]; exact hi.1))
    refine run_def (r0 := [.va (eP ps), .va (eNs ws), .va (eI ns), .no, .no]) (z := .rt (.bool _)) rfl rfl ?_
    refine (blk_if (by simp [h1])).trans ?_
    cases e2 : (ns.zip ps).all fun p => decide (-1 ≤ p.1) && decide (p.1 < p.2.length) with
    | false =>
      rw [e2] at c2
      refine (blk_ifr (e := kE (.bool false)) (by rw [ev_not, ev_tr, c2]; rfl) rfl).trans ?_
      simp
    | true =>
      rw [e2] at c2
      refine (blk_if (by rw [ev_not, ev_tr, c2]; rfl)).trans ?_
      cases e3 : areMet ws ns with
      | false =>
        rw [e3] at c3
        refine (blk_ifr (e := kE (.bool false)) (by rw [ev_not, ev_tr, c3]; rfl) rfl).trans ?_
        simp
      | true =>
        rw [e3] at c3
        refine (blk_if (by rw [ev_not, ev_tr, c3]; rfl)).trans (ret_ev ?_)
        have e2' := List.all_eq_true.mp e2
        refine (all_ev (e := pr PyData.int (tu (tu eN))) (xs := ns.zip ps) (fun p : Int × List (List Need) => decide (p.1 = -1) || areMet (p.2.getD p.1.toNat []) ns) (by simp) fun p hp => ⟨_, ev_pr _ _ _ _ _ _, rfl, ?_⟩).trans ?_
        · have b1 := e2' p hp
          simp only [Bool.and_eq_true, decide_eq_true_eq] at b1
          by_cases hk : p.1 = -1
          · simp [hk]
          · have k0 : 0 ≤ p.1 := by omega
            have hm : p.2.getD p.1.toNat [] ∈ p.2 := by
              have : p.1.toNat < p.2.length := by omega
              simp [List.getD, List.getElem?_eq_getElem this]
            have hps : p.2 ∈ ps := (List.of_mem_zip hp).2
            have c4 := call2 (F := F_are_met) (a := opE ixD (vE 4) (vE 3)) (b := vE 2) (r := [.va (eP ps), .va (eNs ws), .va (eI ns), .va (.int p.1), .va (tu (tu eN) p.2)]) (by simp [atL_getD p.2 [] k0 b1.2]) rfl (are_met_eq (p.2.getD p.1.toNat []) ns (by rw [h1]; exact hi.2 _ hps _ hm))
            simp only [ev_wipe1, ev_wipe0, List.set_cons_zero, List.set_cons_succ, ev_orE, c4]
            simp [hk]
        · simp [h1]
  · have h2 : ¬ (ns.length : Int) = ps.length := by omega
    refine run_def (r0 := [.va (eP ps), .va (eNs ws), .va (eI ns), .no, .no]) (z := .rt (.bool _)) rfl rfl ?_
    refine (blk_ifr (e := kE (.bool false)) (by simp [h2]) rfl).trans ?_
    simp [h1]
def B_ch_in (rec : List D → Option D) : S := blk [sExt 3 (seqI (callE rec [(vE 0), (vE 1), (opE addD (vE 2) (tupE [(vE 4)]))]))]
theorem choices_eq (ps : List (List (List Need))) (ws : List Need) (hi : Inside ps ws) (h3 : ∀ a ∈ ps, a.length ≤ 3) (h5 : ps.length ≤ 5) : ∀ (k : Nat) (begun : List Int), begun.length ≤ ps.length → ps.length - begun.length < k →
    R_choices_from k [eP ps, eNs ws, eI begun] = some (li (tu .int) (cf ps ws begun))
  | 0, _, _, h => by omega
  | k + 1, begun, hb, hk => by
    have hc := is_choice_eq ps ws hi begun
    by_cases hl : begun.length = ps.length
    · refine run_def (r0 := [.va (eP ps), .va (eNs ws), .va (eI begun), .no, .no]) (z := .rt (li (tu .int) (cf ps ws begun))) rfl rfl ?_
      have c3 := call3 (F := F_is_choice) (a := vE 0) (b := vE 1) (c := vE 2) (r := [.va (eP ps), .va (eNs ws), .va (eI begun), .no, .no]) rfl rfl rfl hc
      refine (blk_ifr (by simp [hl]) ?_).trans rfl
      have e : cf ps ws begun = if isChoice ps ws begun = true then [begun] else [] := by
        unfold cf
        rw [hl, List.drop_length, prodN]
        cases hq : isChoice ps ws begun <;> simp [hq]
      rw [ev_if, ev_tr, c3, e]
      cases isChoice ps ws begun <;> rfl
    · have hlt : begun.length < ps.length := by omega
      have hl' : ¬ (begun.length : Int) = ps.length := by omega
      obtain ⟨a, ha⟩ : ∃ a, ps[begun.length]? = some a := ⟨_, List.getElem?_eq_getElem hlt⟩
      have hin : a ∈ ps := List.mem_of_getElem? ha
      have ha3 := h3 a hin
      have hrg : rgDownI (opE subD (unE lenD (opE ixD (vE 0) (unE lenD (vE 2)))) (kE (.int 1))) (unE negD (kE (.int 2))) [.va (eP ps), .va (eNs ws), .va (eI begun), .ow (li (tu .int) []), .no] = some ((down a.length).map .int) := by
        rw [rgd_ev (x := (a.length : Int) - 1) (y := -2) (by simp [ha]) (by simp) (by omega) (by omega)]
        unfold down
        have e : (((a.length : Int) - 1) - -2).toNat = a.length + 1 := by omega
        rw [e, List.map_map]
        rfl
      have hloop := forL_all (e := PyData.int) (tg := .nm 4) (b := B_ch_in (R_choices_from k)) (fun done r => ∃ s4, r = [.va (eP ps), .va (eNs ws), .va (eI begun), .ow (li (tu .int) (done.flatMap fun n => cf ps ws (begun ++ [n]))), s4]) (down a.length) [] [.va (eP ps), .va (eNs ws), .va (eI begun), .ow (li (tu .int) []), .no] ⟨_, rfl⟩ (by
        rintro done x rest r hd ⟨s4, rfl⟩
        have ih := choices_eq ps ws hi h3 h5 k (begun ++ [x]) (by simp; omega) (by simp; omega)
        have c3 := call3 (F := R_choices_from k) (a := vE 0) (b := vE 1) (c := opE addD (vE 2) (tupE [(vE 4)])) (r := [.va (eP ps), .va (eNs ws), .va (eI begun), .ow (li (tu .int) (done.flatMap fun n => cf ps ws (begun ++ [n]))), .va (.int x)]) rfl rfl (by simp [add_one (e := PyData.int) begun x (by omega)]) ih
        have hlen : ((done ++ [x]).flatMap fun n => cf ps ws (begun ++ [n])).length ≤ 10000 := by
          have h1 : ∀ xs : List Int, (xs.flatMap fun n => cf ps ws (begun ++ [n])).length ≤ xs.length * 1024 := by
            intro xs
            induction xs with
            | nil => simp
            | cons x xs ih =>
              rw [List.flatMap_cons, List.length_append, List.length_cons, Nat.succ_mul]
              have := cf_len (ws := ws) h3 h5 (begun ++ [x])
              omega
          have h2 : (done ++ [x]).length ≤ 4 := by
            have := congrArg List.length hd
            simp [down_len] at this
            simp
            omega
          have := h1 (done ++ [x])
          omega
        refine ⟨_, _, rfl, .inl ?_, .va (.int x), rfl⟩
        rw [List.flatMap_append, List.length_append] at hlen
        generalize hacc : (done.flatMap fun n => cf ps ws (begun ++ [n])) = acc at *
        have hx : [x].flatMap (fun n => cf ps ws (begun ++ [n])) = cf ps ws (begun ++ [x]) := by simp
        rw [hx] at hlen
        have hok : lenOk (acc.length + (cf ps ws (begun ++ [x])).length) = true := lenOk_small (by omega)
        rw [List.flatMap_append, hacc, hx]
        refine (blk_nx ?_).trans rfl
        show sExt 3 (seqI (callE (R_choices_from k) [(vE 0), (vE 1), (opE addD (vE 2) (tupE [(vE 4)]))])) [.va (eP ps), .va (eNs ws), .va (eI begun), .ow (li (tu .int) acc), .va (.int x)] = _
        rw [ev_sExt, ev_seq, c3]
        simp only [Option.bind_some, seqD_li, ev_own, List.getElem?_cons_succ, List.getElem?_cons_zero, li]
        simp [hok])
      obtain ⟨r', q, s4, rfl⟩ := hloop
      refine run_def (r0 := [.va (eP ps), .va (eNs ws), .va (eI begun), .no, .no]) (z := .rt (li (tu .int) (cf ps ws begun))) rfl rfl ?_
      refine (blk_if (by simp [hl'])).trans ((blk_nx (r1 := [.va (eP ps), .va (eNs ws), .va (eI begun), .ow (li (tu .int) []), .no]) rfl).trans ((blk_nx ((for_ev hrg).trans q)).trans (ret_ev ?_)))
      rw [cf_step ha]
      rfl
theorem choices0_eq {ps : List (List (List Need))} {ws : List Need} (h : Pa ps) (hi : Inside ps ws) : F_choices_from [eP ps, eNs ws, .tuple []] = some (li (tu .int) (cf ps ws [])) :=
  choices_eq ps ws hi h.s3 h.l5 30 [] (by simp) (by have := h.l5; simp; omega)
theorem told_choice_eq {ps : List (List (List Need))} {ws : List Need} (h : Pa ps) (hi : Inside ps ws) : F_told_choice [eP ps, eNs ws] = some (optI (cf ps ws []).head?) := by
  have hc := choices0_eq h hi
  have c3 := call3 (F := F_choices_from) (a := vE 0) (b := vE 1) (c := tupE []) (r := [.va (eP ps), .va (eNs ws), .no]) rfl rfl rfl hc
  refine run_def (r0 := [.va (eP ps), .va (eNs ws), .no]) (z := .rt (optI (cf ps ws []).head?)) rfl rfl ((blk_nx (r1 := [.va (eP ps), .va (eNs ws), .va (li (tu .int) (cf ps ws []))]) ?_).trans (ret_ev ?_))
  · rw [ev_sAsg, c3]
    rfl
  · cases cf ps ws [] with
    | nil => simp [optI]
    | cons x xs => simp [optI]
theorem number_of_choices_eq {ps : List (List (List Need))} {ws : List Need} (h : Pa ps) (hi : Inside ps ws) : F_number_of_choices [eP ps, eNs ws] = some (.int ((cf ps ws []).length : Int)) := by
  have hc := choices0_eq h hi
  have c3 := call3 (F := F_choices_from) (a := vE 0) (b := vE 1) (c := tupE []) (r := [.va (eP ps), .va (eNs ws)]) rfl rfl rfl hc
  refine run_def (r0 := [.va (eP ps), .va (eNs ws)]) (z := .rt _) rfl rfl (ret_ev ?_)
  · rw [ev_un, c3, Option.bind_some, lenD_li]
theorem has_choice_eq {ps : List (List (List Need))} {ws : List Need} (h : Pa ps) (hi : Inside ps ws) {places : List Int} (hw : Within ws.length places) (hl : places.length ≤ 1000) : F_has_choice [eP ps, eNs ws, eI places] = some (.bool (has ps ws places)) := by
  have hc := told_choice_eq h (sub_inside hi hw)
  have hm := comp_ev_all (e := PyData.int) (f := eN) (own := [3]) (it := seqI (vE 2)) (tg := .nm 3) (ts := noT) (el := opE ixD (vE 1) (vE 3)) (r := [.va (eP ps), .va (eNs ws), .va (eI places), .no]) (xs := places) (fun i => ws.getD i.toNat (0, [])) rfl (by omega) (fun i hi => by
    obtain ⟨h1, h2⟩ := hw i hi
    refine ⟨_, rfl, rfl, ?_⟩
    simp [atL_getD ws (0, []) h1 h2])
  have c2 := call2 (F := F_told_choice) (a := vE 0) (b := tupI (seqI (lstI (compI [3] (seqI (vE 2)) (.nm 3) noT (opE ixD (vE 1) (vE 3)))))) (r := [.va (eP ps), .va (eNs ws), .va (eI places), .no]) rfl (tupl_ev hm) hc
  refine run_def (r0 := [.va (eP ps), .va (eNs ws), .va (eI places), .no]) (z := .rt _) rfl rfl (ret_ev ?_)
  rw [ev_un, c2]
  unfold has
  cases cf ps (sub ws places) [] <;> rfl
theorem all_sets_eq (n : Nat) (hn : n ≤ 10) : F_all_sets [.int n] = some (li (tu .int) (lexS (rgi n))) := by
  have hr : rgI (kE (.int 0)) (vE 0) [.va (.int n), .va (li (tu .int) [[]]), .no, .no] = some ((List.range n).map fun i : Nat => .int (i : Int)) := by
    rw [rg_ev (x := 0) (y := (n : Int)) (by simp) (by simp) (by omega) (by omega), rangeL_nat]
  obtain ⟨r', q, s2, rfl⟩ := forL_range (tg := .nm 2) (b := blk [(sAsg (.nm 1) (opE addD (vE 1) (lstI (compI [3] (seqI (vE 1)) (.nm 3) noT (opE addD (vE 3) (tupE [(vE 2)]))))))]) (fun k r => ∃ s2, r = [.va (.int n), .va (li (tu .int) (setsU k)), s2, .no]) n [.va (.int n), .va (li (tu .int) [[]]), .no, .no] ⟨_, rfl⟩ (by
    rintro k r hk ⟨s2, rfl⟩
    refine ⟨_, _, rfl, .inl ?_, .va (.int k), rfl⟩
    have h2 : (setsU k).length ≤ 1024 := by
      rw [setsU_len]
      have : 2 ^ k ≤ 2 ^ 10 := Nat.pow_le_pow_right (by decide) (by omega)
      omega
    have hm := comp_ev_all (e := tu PyData.int) (f := tu PyData.int) (own := [3]) (it := seqI (vE 1)) (tg := .nm 3) (ts := noT) (el := opE addD (vE 3) (tupE [(vE 2)])) (r := [.va (.int n), .va (li (tu .int) (setsU k)), .va (.int k), .no]) (xs := setsU k) (fun s => s ++ [(k : Int)]) rfl (by omega) (fun s hs => by
      have h3 : s.length ≤ 10 := by
        have := ((mem_setsU k s).mp hs).length_le
        simp [rgi] at this
        omega
      refine ⟨_, rfl, rfl, ?_⟩
      simp [add_one (e := PyData.int) s k (by omega)])
    refine (blk_nx ?_).trans rfl
    show sAsg (.nm 1) (opE addD (vE 1) (lstI (compI [3] (seqI (vE 1)) (.nm 3) noT (opE addD (vE 3) (tupE [(vE 2)]))))) [.va (.int n), .va (li (tu .int) (setsU k)), .va (.int k), .no] = _
    rw [ev_sAsg, ev_op, lst_ev hm]
    simp only [ev_v, List.getElem?_cons_succ, List.getElem?_cons_zero, Option.bind_some]
    rw [addD_li _ _ (by rw [List.length_map]; omega), setsU]
    simp)
  refine run_def (r0 := [.va (.int n), .no, .no, .no]) (z := .rt _) rfl rfl ((blk_nx (r1 := [.va (.int n), .va (li (tu .int) [[]]), .no, .no]) rfl).trans ((blk_nx ((for_ev hr).trans q)).trans (ret_ev ?_)))
  exact sort_setsU n (by omega)
def B_quarrel_in : S := blk [(sAsg (.nm 3) (lstI (compI [4] (seqI (vE 2)) (.nm 4) noT (tupI (seqI (lstI (compI [5] (seqI (vE 2)) (.nm 5) (trT (opE neD (vE 5) (vE 4))) (vE 5)))))))), (sIf (andT (notT (trT (callE F_has_choice [(vE 0), (vE 1), (vE 2)]))) (trT (allE [6] (seqI (vE 3)) (.nm 6) noT (callE F_has_choice [(vE 0), (vE 1), (vE 6)])))) (blk [(sRet (vE 2))]) (blk []))]
theorem told_quarrel_eq {ps : List (List (List Need))} {ws : List Need} (h : Pa ps) (hi : Inside ps ws) (hw : ws.length ≤ 10) : F_told_quarrel [eP ps, eNs ws] = some (optI ((lexS (rgi ws.length)).find? (isQ ps ws))) := by
  have hin : ∀ t ∈ lexS (rgi ws.length), Within ws.length t ∧ t.length ≤ 10 := fun t ht => by
    have := (mem_lexS _ t).mp ht
    refine ⟨fun i hi => mem_rgi.mp (this.subset hi), ?_⟩
    have := this.length_le
    simp [rgi] at this
    omega
  have hseq : seqI (callE F_all_sets [(unE lenD (vE 1))]) [.va (eP ps), .va (eNs ws), .no, .no, .no, .no, .no] = some ((lexS (rgi ws.length)).map (tu .int)) := by
    rw [ev_seq, call1 (x := .int ws.length) (by simp) (all_sets_eq ws.length hw)]
    rfl
  obtain ⟨v1, v2⟩ := forL_find (e := tu PyData.int) (tg := .nm 2) (b := B_quarrel_in) (fun r => ∃ s2 s3, r = [.va (eP ps), .va (eNs ws), s2, s3, .no, .no, .no]) (isQ ps ws) (tu .int) (lexS (rgi ws.length)) [.va (eP ps), .va (eNs ws), .no, .no, .no, .no, .no] ⟨_, _, rfl⟩ (by
    rintro t ht r ⟨s2, s3, rfl⟩
    obtain ⟨t1, t2⟩ := hin t ht
    have hf : ∀ x, Within ws.length (t.filter fun y => !decide (y = x)) ∧ (t.filter fun y => !decide (y = x)).length ≤ 10 := fun x => ⟨fun i hi => t1 i (List.mem_filter.mp hi).1, Nat.le_trans (List.length_filter_le _ _) t2⟩
    have hm := comp_ev_all (e := PyData.int) (f := tu PyData.int) (own := [4]) (it := seqI (vE 2)) (tg := .nm 4) (ts := noT) (el := tupI (seqI (lstI (compI [5] (seqI (vE 2)) (.nm 5) (trT (opE neD (vE 5) (vE 4))) (vE 5))))) (r := [.va (eP ps), .va (eNs ws), .va (eI t), s3, .no, .no, .no]) (xs := t) (fun x => t.filter fun y => !decide (y = x)) rfl (by omega) (fun x hx => by
      refine ⟨_, rfl, rfl, ?_⟩
      have := comp_ev (e := PyData.int) (f := PyData.int) (own := [5]) (it := seqI (vE 2)) (tg := .nm 5) (ts := trT (opE neD (vE 5) (vE 4))) (el := vE 5) (r := [.va (eP ps), .va (eNs ws), .va (eI t), s3, .va (.int x), .no, .no]) (xs := t) (fun y => !decide (y = x)) id rfl (by omega) (fun y hy => ⟨_, rfl, by simp, fun _ => rfl⟩)
      rw [List.map_id] at this
      exact tupl_ev this)
    have hs : sAsg (.nm 3) (lstI (compI [4] (seqI (vE 2)) (.nm 4) noT (tupI (seqI (lstI (compI [5] (seqI (vE 2)) (.nm 5) (trT (opE neD (vE 5) (vE 4))) (vE 5))))))) [.va (eP ps), .va (eNs ws), .va (eI t), s3, .no, .no, .no] = some (.nx [.va (eP ps), .va (eNs ws), .va (eI t), .va (li (tu .int) (fewer t)), .no, .no, .no]) := by
      rw [ev_sAsg, lst_ev hm]
      rfl
    have c3 := call3 (F := F_has_choice) (a := vE 0) (b := vE 1) (c := vE 2) (r := [.va (eP ps), .va (eNs ws), .va (eI t), .va (li (tu .int) (fewer t)), .no, .no, .no]) rfl rfl rfl (has_choice_eq h hi t1 (by omega))
    have c4 : allE [6] (seqI (vE 3)) (.nm 6) noT (callE F_has_choice [(vE 0), (vE 1), (vE 6)]) [.va (eP ps), .va (eNs ws), .va (eI t), .va (li (tu .int) (fewer t)), .no, .no, .no] = some (.bool ((fewer t).all (has ps ws))) := by
      refine all_ev (e := tu PyData.int) (has ps ws) rfl fun y hy => ⟨_, rfl, rfl, ?_⟩
      obtain ⟨x, _, rfl⟩ := List.mem_map.mp hy
      exact call3 (F := F_has_choice) (a := vE 0) (b := vE 1) (c := vE 6) rfl rfl rfl (has_choice_eq h hi (hf x).1 (by have := (hf x).2; omega))
    have c5 : andT (notT (trT (callE F_has_choice [(vE 0), (vE 1), (vE 2)]))) (trT (allE [6] (seqI (vE 3)) (.nm 6) noT (callE F_has_choice [(vE 0), (vE 1), (vE 6)]))) [.va (eP ps), .va (eNs ws), .va (eI t), .va (li (tu .int) (fewer t)), .no, .no, .no] = some (isQ ps ws t) := by
      rw [ev_and, ev_not, ev_tr, c3, ev_tr, c4]
      unfold isQ
      cases has ps ws t <;> simp
    refine ⟨_, rfl, fun hp => ?_, fun hp => ⟨_, .inl ?_, .va (eI t), .va (li (tu .int) (fewer t)), rfl⟩⟩
    · rw [hp] at c5
      exact (blk_nx hs).trans (blk_ifr c5 rfl)
    · rw [hp] at c5
      exact (blk_nx hs).trans ((blk_if c5).trans rfl))
  cases hq : (lexS (rgi ws.length)).find? (isQ ps ws) with
  | some t => exact run_def (r0 := [.va (eP ps), .va (eNs ws), .no, .no, .no, .no, .no]) (z := .rt _) rfl rfl (blk_rt ((for_ev hseq).trans (v1 t hq)))
  | none =>
    obtain ⟨r', q, _⟩ := v2 hq
    exact run_def (r0 := [.va (eP ps), .va (eNs ws), .no, .no, .no, .no, .no]) (z := .rt .none) rfl rfl ((blk_nx ((for_ev hseq).trans q)).trans (ret_ev rfl))
end Dm.M
end

section
set_option Elab.async false
set_option linter.all false
set_option maxRecDepth 100000
set_option maxHeartbeats 1000000
set_option autoImplicit true
/-! K94A: rules over signs, the plain facts: what leads where, rows that obey. -/
namespace Dm.M
open PySem PySem.W
abbrev Rule := Int × Int
def inR (n : Nat) (s : Int) : Prop := s ≠ 0 ∧ s.natAbs ≤ n
theorem inR.neg {n : Nat} {s : Int} (h : inR n s) : inR n (-s) := ⟨by have := h.1; omega, by rw [Int.natAbs_neg]; exact h.2⟩
structure Ok (n : Nat) (rules : List Rule) : Prop where
  a : ∀ r ∈ rules, inR n r.1
  b : ∀ r ∈ rules, inR n r.2
def Lead (rules : List Rule) (a b : Int) : Prop := (a, b) ∈ rules ∨ (-b, -a) ∈ rules
instance (rules : List Rule) (a b : Int) : Decidable (Lead rules a b) := by unfold Lead; infer_instance
theorem Lead.skew {rules : List Rule} {a b : Int} (h : Lead rules a b) : Lead rules (-b) (-a) := by
  rcases h with h | h
  · right
    rw [Int.neg_neg, Int.neg_neg]
    exact h
  · exact .inl h
theorem Lead.inR {n : Nat} {rules : List Rule} (ok : Ok n rules) {a b : Int} (h : Lead rules a b) : inR n a ∧ inR n b := by
  rcases h with h | h
  · exact ⟨ok.a _ h, ok.b _ h⟩
  · have h1 := (ok.a _ h).neg
    have h2 := (ok.b _ h).neg
    simp only [Int.neg_neg] at h1 h2
    exact ⟨h2, h1⟩
inductive Rch (rules : List Rule) (a : Int) : Int → Prop
  | refl : Rch rules a a
  | step {b c : Int} : Rch rules a b → Lead rules b c → Rch rules a c
theorem Rch.one {rules : List Rule} {a b : Int} (h : Lead rules a b) : Rch rules a b := .step .refl h
theorem Rch.trans {rules : List Rule} {a b c : Int} (h : Rch rules a b) (k : Rch rules b c) : Rch rules a c := by
  induction k with
  | refl => exact h
  | step _ l ih => exact .step ih l
theorem Rch.skew {rules : List Rule} {a b : Int} (h : Rch rules a b) : Rch rules (-b) (-a) := by
  induction h with
  | refl => exact .refl
  | step _ l ih => exact (Rch.one l.skew).trans ih
theorem Rch.inR {n : Nat} {rules : List Rule} (ok : Ok n rules) {a b : Int} (ha : Dm.M.inR n a) (h : Rch rules a b) : Dm.M.inR n b := by
  cases h with
  | refl => exact ha
  | step _ l => exact (l.inR ok).2
def Stuck (n : Nat) (rules : List Rule) : Prop := ∃ s, inR n s ∧ Rch rules s (-s) ∧ Rch rules (-s) s
/-! ### rows -/
def allSw : Nat → List (List Int)
  | 0 => [[]]
  | n + 1 => (allSw n).flatMap fun row => [row ++ [0], row ++ [1]]
def hasS (row : List Int) (s : Int) : Bool := decide (row.getD (s.natAbs - 1) 0 = if s > 0 then 1 else 0)
def sat (rules : List Rule) (row : List Int) : Bool := rules.all fun r => !hasS row r.1 || hasS row r.2
def every (n : Nat) (rules : List Rule) : List (List Int) := (allSw n).filter (sat rules)
theorem allSw_mem : ∀ (n : Nat) (row : List Int), row ∈ allSw n ↔ row.length = n ∧ ∀ x ∈ row, x = 0 ∨ x = 1
  | 0, row => by
    simp only [allSw, List.mem_singleton]
    constructor
    · rintro rfl
      simp
    · rintro ⟨h, _⟩
      exact List.eq_nil_of_length_eq_zero h
  | n + 1, row => by
    simp only [allSw, List.mem_flatMap, allSw_mem n]
    constructor
    · rintro ⟨r, ⟨h1, h2⟩, hr⟩
      simp only [List.mem_cons, List.not_mem_nil, or_false] at hr
      rcases hr with rfl | rfl
      · refine ⟨by simp [h1], fun x hx => ?_⟩
        rcases List.mem_append.mp hx with q | q
        · exact h2 x q
        · exact .inl (List.mem_singleton.mp q)
      · refine ⟨by simp [h1], fun x hx => ?_⟩
        rcases List.mem_append.mp hx with q | q
        · exact h2 x q
        · exact .inr (List.mem_singleton.mp q)
    · rintro ⟨h1, h2⟩
      have hne : row ≠ [] := fun z => by rw [z] at h1; cases h1
      refine ⟨row.dropLast, ⟨by rw [List.length_dropLast]; omega, fun x hx => h2 x (List.dropLast_subset row hx)⟩, ?_⟩
      have e := List.dropLast_concat_getLast hne
      rcases h2 (row.getLast hne) (List.getLast_mem hne) with q | q
      · rw [q] at e
        simp [e]
      · rw [q] at e
        simp [e]
theorem allSw_len : ∀ n, (allSw n).length = 2 ^ n
  | 0 => rfl
  | n + 1 => by
    have : ∀ xs : List (List Int), (xs.flatMap fun row => [row ++ [0], row ++ [1]]).length = 2 * xs.length := fun xs => by
      induction xs with
      | nil => rfl
      | cons x xs ih =>
        rw [List.flatMap_cons, List.length_append, ih]
        simp
        omega
    rw [allSw, this, allSw_len n, Nat.pow_succ]
    omega
theorem has_neg {n : Nat} {row : List Int} (hr : row ∈ allSw n) {s : Int} (hs : inR n s) : hasS row (-s) = !hasS row s := by
  obtain ⟨h1, h2⟩ := (allSw_mem n row).mp hr
  unfold hasS
  rw [Int.natAbs_neg]
  have hlt : s.natAbs - 1 < row.length := by
    have := hs.1
    have := hs.2
    omega
  have hm : row.getD (s.natAbs - 1) 0 ∈ row := by simp [List.getD, List.getElem?_eq_getElem hlt]
  have := hs.1
  rcases h2 _ hm with q | q <;> rw [q]
  · by_cases hp : s > 0
    · have : ¬ -s > 0 := by omega
      simp [hp, this]
      omega
    · have : -s > 0 := by omega
      simp [hp, this]
      omega
  · by_cases hp : s > 0
    · have : ¬ -s > 0 := by omega
      simp [hp, this]
      omega
    · have : -s > 0 := by omega
      simp [hp, this]
      omega
theorem sat_lead {n : Nat} {rules : List Rule} (ok : Ok n rules) {row : List Int} (hr : row ∈ allSw n) (hs : sat rules row = true) {a b : Int} (l : Lead rules a b) (ha : hasS row a = true) : hasS row b = true := by
  unfold sat at hs
  rw [List.all_eq_true] at hs
  rcases l with l | l
  · have := hs _ l
    simpa [ha] using this
  · have h1 := hs _ l
    have ia := ((Lead.inR ok (.inr l)).1 : inR n a)
    have ib := ((Lead.inR ok (.inr l)).2 : inR n b)
    rw [has_neg hr ia, has_neg hr ib, ha] at h1
    simpa using h1
theorem sat_rch {n : Nat} {rules : List Rule} (ok : Ok n rules) {row : List Int} (hr : row ∈ allSw n) (hs : sat rules row = true) {a b : Int} (h : Rch rules a b) (ha : hasS row a = true) : hasS row b = true := by
  induction h with
  | refl => exact ha
  | step _ l ih => exact sat_lead ok hr hs l ih
/-- a set of signs that is closed and holds no sign with its other -/
structure Good (n : Nat) (rules : List Rule) (A : List Int) (k : Nat) (S : Int → Prop) : Prop where
  a : ∀ s ∈ A, S s
  c : ∀ s t, S s → Lead rules s t → S t
  d : ∀ s, S s → ¬ S (-s)
  e : ∀ i : Nat, 1 ≤ i → i ≤ k → S i ∨ S (-(i : Int))
theorem Good.rch {n : Nat} {rules : List Rule} {A : List Int} {k : Nat} {S : Int → Prop} (g : Good n rules A k S) {s t : Int} (h : S s) (r : Rch rules s t) : S t := by
  induction r with
  | refl => exact h
  | step _ l ih => exact g.c _ _ ih l
theorem good_step {n : Nat} {rules : List Rule} {A : List Int} {k : Nat} {S : Int → Prop} (hk : k < n) (ns : ¬ Stuck n rules) (g : Good n rules A k S) : ∃ S', Good n rules A (k + 1) S' := by
  by_cases hd : S ((k + 1 : Nat) : Int) ∨ S (-((k + 1 : Nat) : Int))
  · refine ⟨S, g.a, g.c, g.d, fun i h1 h2 => ?_⟩
    by_cases hi : i = k + 1
    · rw [hi]; exact hd
    · exact g.e i h1 (by omega)
  · have ht : ∃ t : Int, (t = ((k + 1 : Nat) : Int) ∨ t = -((k + 1 : Nat) : Int)) ∧ ¬ Rch rules t (-t) := by
      refine Classical.byContradiction fun hno => ns ⟨((k + 1 : Nat) : Int), ⟨by omega, by omega⟩, ?_, ?_⟩
      · exact Classical.not_not.mp fun z => hno ⟨_, .inl rfl, z⟩
      · have := Classical.not_not.mp fun z => hno ⟨_, .inr rfl, z⟩
        rwa [Int.neg_neg] at this
    obtain ⟨t, ht1, ht2⟩ := ht
    have hnt : ¬ S t ∧ ¬ S (-t) := by
      rcases ht1 with rfl | rfl
      · exact ⟨fun z => hd (.inl z), fun z => hd (.inr z)⟩
      · refine ⟨fun z => hd (.inr z), fun z => hd (.inl ?_)⟩
        rwa [Int.neg_neg] at z
    refine ⟨fun s => S s ∨ Rch rules t s, fun s hs => .inl (g.a s hs), fun s u h l => ?_, fun s h h' => ?_, fun i h1 h2 => ?_⟩
    · rcases h with h | h
      · exact .inl (g.c s u h l)
      · exact .inr (h.step l)
    · rcases h with h | h <;> rcases h' with h' | h'
      · exact g.d s h h'
      · have := h'.skew
        rw [Int.neg_neg] at this
        exact hnt.2 (g.rch h this)
      · exact hnt.2 (g.rch h' h.skew)
      · have := h'.skew
        rw [Int.neg_neg] at this
        exact ht2 (h.trans this)
    · by_cases hi : i = k + 1
      · subst hi
        rcases ht1 with e | e
        · left; right; rw [← e]; exact .refl
        · right; right; rw [← e]; exact .refl
      · exact (g.e i h1 (by omega)).imp .inl .inl
/-- assumed signs that do not lead against each other: a row that obeys and has them -/
theorem row_of {n : Nat} {rules : List Rule} (ok : Ok n rules) (ns : ¬ Stuck n rules) (A : List Int) (hA : ∀ s ∈ A, inR n s) (h : ∀ x ∈ A, ∀ y ∈ A, ¬ Rch rules x (-y)) : ∃ row ∈ allSw n, sat rules row = true ∧ ∀ s ∈ A, hasS row s = true := by
  have g0 : Good n rules A 0 fun s => ∃ x ∈ A, Rch rules x s := by
    refine ⟨fun s hs => ⟨s, hs, .refl⟩, fun s t ⟨x, hx, r⟩ l => ⟨x, hx, r.step l⟩, fun s ⟨x, hx, r⟩ ⟨y, hy, r'⟩ => ?_, fun i h1 h2 => by omega⟩
    have := r'.skew
    rw [Int.neg_neg] at this
    exact h x hx y hy (r.trans this)
  have gk : ∀ k, k ≤ n → ∃ S, Good n rules A k S := by
    intro k
    induction k with
    | zero => exact fun _ => ⟨_, g0⟩
    | succ k ih =>
      intro hk
      obtain ⟨S, g⟩ := ih (by omega)
      exact good_step (by omega) ns g
  obtain ⟨S, g⟩ := gk n (Nat.le_refl n)
  have : ∀ i : Nat, Decidable (S ((i : Int) + 1)) := fun i => Classical.propDecidable _
  let row : List Int := (List.range n).map fun i : Nat => if S ((i : Int) + 1) then 1 else 0
  have hrow : row ∈ allSw n := (allSw_mem n row).mpr ⟨by simp [row], fun x hx => by
    obtain ⟨i, _, rfl⟩ := List.mem_map.mp hx
    by_cases q : S ((i : Int) + 1) <;> simp [q]⟩
  have key : ∀ s, inR n s → (hasS row s = true ↔ S s) := by
    intro s hs
    have h0 := hs.1
    have h1 := hs.2
    have hlt : s.natAbs - 1 < n := by omega
    have eg : row.getD (s.natAbs - 1) 0 = if S (((s.natAbs - 1 : Nat) : Int) + 1) then 1 else 0 := by simp [row, List.getD, hlt]
    unfold hasS
    rw [eg, decide_eq_true_eq]
    by_cases hp : s > 0
    · have e : ((s.natAbs - 1 : Nat) : Int) + 1 = s := by omega
      have hS : S (((s.natAbs - 1 : Nat) : Int) + 1) ↔ S s := by rw [e]
      rw [if_pos hp]
      by_cases q : S s
      · simp [hS.mpr q, q]
      · simp [show ¬ S (((s.natAbs - 1 : Nat) : Int) + 1) from fun z => q (hS.mp z), q]
    · have e : ((s.natAbs - 1 : Nat) : Int) + 1 = -s := by omega
      have hS : S (((s.natAbs - 1 : Nat) : Int) + 1) ↔ S (-s) := by rw [e]
      rw [if_neg hp]
      have hde := g.e s.natAbs (by omega) h1
      have e2 : ((s.natAbs : Nat) : Int) = -s := by omega
      rw [e2, Int.neg_neg] at hde
      by_cases q : S (-s)
      · have : ¬ S s := fun z => g.d s z q
        simp [q, this]
        exact hS.mpr q
      · simp [q, hde.resolve_left q]
        exact fun z => q (hS.mp z)
  refine ⟨row, hrow, ?_, fun s hs => (key s (hA s hs)).mpr (g.a s hs)⟩
  unfold sat
  rw [List.all_eq_true]
  intro r hr
  by_cases ha : hasS row r.1 = true
  · have := (key _ (ok.b r hr)).mpr (g.c _ _ ((key _ (ok.a r hr)).mp ha) (.inl hr))
    rw [this, Bool.or_true]
  · have : hasS row r.1 = false := by simpa using ha
    rw [this]
    rfl
theorem mem_every {n : Nat} {rules : List Rule} {row : List Int} : row ∈ every n rules ↔ row ∈ allSw n ∧ sat rules row = true := by
  unfold every
  rw [List.mem_filter]
/-- stuck exactly if no row obeys -/
theorem stuck_iff {n : Nat} {rules : List Rule} (ok : Ok n rules) : Stuck n rules ↔ every n rules = [] := by
  constructor
  · rintro ⟨s, hs, h1, h2⟩
    rw [List.eq_nil_iff_forall_not_mem]
    intro row hrow
    obtain ⟨hr, hsat⟩ := mem_every.mp hrow
    have hn := has_neg hr hs
    cases hq : hasS row s with
    | true =>
      have := sat_rch ok hr hsat h1 hq
      rw [hn, hq] at this
      cases this
    | false =>
      rw [hq] at hn
      have := sat_rch ok hr hsat h2 hn
      rw [hq] at this
      cases this
  · intro h
    refine Classical.byContradiction fun ns => ?_
    obtain ⟨row, hr, hs, _⟩ := row_of ok ns [] (by simp) (by simp)
    have := mem_every.mpr ⟨hr, hs⟩
    rw [h] at this
    cases this
/-- the ends of a reason -/
def ReasonAt (n : Nat) (rules : List Rule) (a b : Int) : Prop := Rch rules a b ∨ Rch rules a (-a) ∨ Rch rules (-b) b ∨ Stuck n rules
theorem follows_iff {n : Nat} {rules : List Rule} (ok : Ok n rules) {a b : Int} (ha : inR n a) (hb : inR n b) : (∀ row ∈ every n rules, hasS row a = true → hasS row b = true) ↔ ReasonAt n rules a b := by
  constructor
  · intro h
    refine Classical.byContradiction fun hno => ?_
    unfold ReasonAt at hno
    simp only [not_or] at hno
    obtain ⟨h1, h2, h3, h4⟩ := hno
    obtain ⟨row, hr, hs, hA⟩ := row_of ok h4 [a, -b] (by
      intro s hs
      simp only [List.mem_cons, List.not_mem_nil, or_false] at hs
      rcases hs with rfl | rfl
      · exact ha
      · exact hb.neg) (by
      intro x hx y hy
      simp only [List.mem_cons, List.not_mem_nil, or_false] at hx hy
      rcases hx with rfl | rfl <;> rcases hy with rfl | rfl
      · exact h2
      · rw [Int.neg_neg]; exact h1
      · intro z
        have := z.skew
        simp only [Int.neg_neg] at this
        exact h1 this
      · rw [Int.neg_neg]; exact h3)
    have q1 := h row (mem_every.mpr ⟨hr, hs⟩) (hA a (by simp))
    have q2 := hA (-b) (by simp)
    rw [has_neg hr hb, q1] at q2
    cases q2
  · rintro (h | h | h | h) row hrow hra
    · exact sat_rch ok (mem_every.mp hrow).1 (mem_every.mp hrow).2 h hra
    · have := sat_rch ok (mem_every.mp hrow).1 (mem_every.mp hrow).2 h hra
      rw [has_neg (mem_every.mp hrow).1 ha, hra] at this
      cases this
    · cases hq : hasS row b with
      | true => rfl
      | false =>
        have hn := has_neg (mem_every.mp hrow).1 hb
        rw [hq] at hn
        have := sat_rch ok (mem_every.mp hrow).1 (mem_every.mp hrow).2 h hn
        rw [hq] at this
        exact this
    · rw [(stuck_iff ok).mp h] at hrow
      cases hrow
end Dm.M
end

section
set_option Elab.async false
set_option linter.all false
set_option maxRecDepth 100000
set_option maxHeartbeats 1000000
set_option autoImplicit true
/-! K94B: steps and walks. -/
namespace Dm.M
open PySem PySem.W
def ssI (ns : List Int) : List Int := (dedupI ns).mergeSort fun a b => decide (a ≤ b)
theorem mem_ssI {ns : List Int} {a : Int} : a ∈ ssI ns ↔ a ∈ ns := by unfold ssI; rw [mem_sort, mem_dedupI]
theorem ssI_asc (ns : List Int) : (ssI ns).Pairwise (· < ·) := asc_sort (nodup_dedupI ns)
theorem ssI_len (ns : List Int) : (ssI ns).length ≤ ns.length := by
  unfold ssI
  rw [List.length_mergeSort]
  exact dedupI_len ns
theorem sortSetA_ints (ns : List Int) (h : ns.length ≤ 60) : sortSetA (li .int ns) = some (li .int (ssI ns)) := by
  have hl := ssI_len ns
  unfold sortSetA
  rw [sortSet_eq (ns := ns) (ys := ssI ns) (by omega) (ssI_asc ns) (by omega) fun a => mem_ssI.symm]
def stepsL (rules : List Rule) (s : Int) : List Int := ssI ((rules.filter fun r => decide (r.1 = s)).map (fun r => r.2) ++ (rules.filter fun r => decide (r.2 = 0 - s)).map fun r => 0 - r.1)
theorem mem_steps {rules : List Rule} {s b : Int} : b ∈ stepsL rules s ↔ Lead rules s b := by
  unfold stepsL Lead
  rw [mem_ssI, List.mem_append, List.mem_map, List.mem_map]
  constructor
  · rintro (⟨r, h1, rfl⟩ | ⟨r, h1, rfl⟩)
    · obtain ⟨h2, h3⟩ := List.mem_filter.mp h1
      left
      have e : r.1 = s := by simpa using h3
      rw [← e]
      exact h2
    · obtain ⟨h2, h3⟩ := List.mem_filter.mp h1
      right
      have e : r.2 = 0 - s := by simpa using h3
      have e2 : (-(0 - r.1), -s) = r := Prod.ext (by simp) (by rw [e]; simp)
      rw [e2]
      exact h2
  · rintro (h | h)
    · exact .inl ⟨_, List.mem_filter.mpr ⟨h, by simp⟩, rfl⟩
    · exact .inr ⟨_, List.mem_filter.mpr ⟨h, by simp⟩, by simp⟩
theorem steps_len (rules : List Rule) (s : Int) : (stepsL rules s).length ≤ 2 * rules.length := by
  refine Nat.le_trans (ssI_len _) ?_
  rw [List.length_append, List.length_map, List.length_map]
  have h1 := List.length_filter_le (fun r : Rule => decide (r.1 = s)) rules
  have h2 := List.length_filter_le (fun r : Rule => decide (r.2 = 0 - s)) rules
  omega
theorem steps_eq (rules : List Rule) (hl : rules.length ≤ 20) (s : Int) : F_steps_from [eL rules, .int s] = some (li .int (stepsL rules s)) := by
  have c1 := comp_ev (e := pr PyData.int PyData.int) (f := PyData.int) (own := [4, 5]) (it := seqI (vE 0)) (tg := .tp [(.nm 4), (.nm 5)]) (ts := trT (opE eqD (vE 4) (vE 1))) (el := vE 5) (r := [.va (eL rules), .va (.int s), .no, .no, .no, .no]) (xs := rules) (fun r => decide (r.1 = s)) (fun r => r.2) rfl (by omega) (fun r hr => ⟨_, ev_pr _ _ _ _ _ _, by simp, fun _ => by simp⟩)
  have c2 := comp_ev (e := pr PyData.int PyData.int) (f := PyData.int) (own := [4, 5]) (it := seqI (vE 0)) (tg := .tp [(.nm 4), (.nm 5)]) (ts := trT (opE eqD (vE 5) (opE subD (kE (.int 0)) (vE 1)))) (el := opE subD (kE (.int 0)) (vE 4)) (r := [.va (eL rules), .va (.int s), .va (li .int ((rules.filter fun r => decide (r.1 = s)).map (fun r => r.2))), .no, .no, .no]) (xs := rules) (fun r => decide (r.2 = 0 - s)) (fun r => 0 - r.1) rfl (by omega) (fun r hr => ⟨_, ev_pr _ _ _ _ _ _, by simp, fun _ => by simp⟩)
  have h1 := List.length_filter_le (fun r : Rule => decide (r.1 = s)) rules
  have h2 := List.length_filter_le (fun r : Rule => decide (r.2 = 0 - s)) rules
  refine run_def (r0 := [.va (eL rules), .va (.int s), .no, .no, .no, .no]) (z := .rt _) rfl rfl ((blk_nx (r1 := [.va (eL rules), .va (.int s), .va (li .int ((rules.filter fun r => decide (r.1 = s)).map (fun r => r.2))), .no, .no, .no]) ?_).trans ((blk_nx (r1 := [.va (eL rules), .va (.int s), .va (li .int ((rules.filter fun r => decide (r.1 = s)).map (fun r => r.2))), .va (li .int ((rules.filter fun r => decide (r.2 = 0 - s)).map (fun r => 0 - r.1))), .no, .no]) ?_).trans (ret_ev ?_)))
  · rw [ev_sAsg, lst_ev c1]
    rfl
  · rw [ev_sAsg, lst_ev c2]
    rfl
  · rw [ev_un, op_ev rfl rfl (addD_li _ _ (by rw [List.length_map, List.length_map]; omega)), Option.bind_some, sortSetA_ints _ (by rw [List.length_append, List.length_map, List.length_map]; omega)]
    rfl
inductive Walk (rules : List Rule) (a : Int) : Int → List Int → Prop
  | one : Walk rules a a [a]
  | snoc {b c : Int} {t : List Int} : Walk rules a b t → Lead rules b c → Walk rules a c (t ++ [c])
theorem Walk.rch {rules : List Rule} {a b : Int} {t : List Int} (h : Walk rules a b t) : Rch rules a b := by
  induction h with
  | one => exact .refl
  | snoc _ l ih => exact .step ih l
theorem Walk.ne {rules : List Rule} {a b : Int} {t : List Int} (h : Walk rules a b t) : t ≠ [] := by
  cases h <;> simp
theorem Walk.last {rules : List Rule} {a b : Int} {t : List Int} (h : Walk rules a b t) : t.getLast? = some b := by
  cases h <;> simp
theorem Walk.head {rules : List Rule} {a b : Int} {t : List Int} (h : Walk rules a b t) : t[0]? = some a := by
  induction h with
  | one => rfl
  | snoc w _ ih =>
    have := List.length_pos_iff.mpr w.ne
    rw [List.getElem?_append_left this]
    exact ih
def signsL (n : Nat) : List Int := (List.range n).map (fun i : Nat => (i : Int) + 1) ++ (List.range n).map fun i : Nat => 0 - (i : Int) - 1
theorem mem_signs {n : Nat} {s : Int} : s ∈ signsL n ↔ inR n s := by
  unfold signsL inR
  rw [List.mem_append, List.mem_map, List.mem_map]
  constructor
  · rintro (⟨i, hi, rfl⟩ | ⟨i, hi, rfl⟩)
    · have := List.mem_range.mp hi
      omega
    · have := List.mem_range.mp hi
      omega
  · rintro ⟨h1, h2⟩
    by_cases hp : s > 0
    · exact .inl ⟨s.natAbs - 1, List.mem_range.mpr (by omega), by omega⟩
    · exact .inr ⟨s.natAbs - 1, List.mem_range.mpr (by omega), by omega⟩
theorem signs_len (n : Nat) : (signsL n).length = 2 * n := by
  unfold signsL
  rw [List.length_append, List.length_map, List.length_map, List.length_range]
  omega
structure WI (rules : List Rule) (a : Int) (K : List Int) (f : Int → List Int) (Q : List Int) : Prop where
  nk : K.Nodup
  nq : Q.Nodup
  sub : ∀ q ∈ Q, q ∈ K
  st : a ∈ K
  wk : ∀ k ∈ K, Walk rules a k (f k) ∧ (f k).length ≤ K.length
def eDI (f : Int → List Int) (K : List Int) : D := .dict (dI (fun k => eI (f k)) K)
def B_wb_in : S := blk [(sIf (trT (opE ninD (vE 6) (bE 3))) (blk [(sPut 3 (vE 6) (opE addD (opE ixD (bE 3) (vE 5)) (tupE [(vE 6)]))), (sApp 4 (vE 6))]) (blk []))]
theorem ninD_dI (f : Int → D) (ks : List Int) (k : Int) : ninD (.int k) (.dict (dI f ks)) = some (.bool (!decide (k ∈ ks))) := by
  show (if fitsK (dI f ks) (.int k) then some (PyData.bool (!(lookD (dI f ks) (.int k)).isSome)) else none) = _
  rw [fitsK_dI, if_pos rfl, lookD_dI]
  by_cases h : k ∈ ks <;> simp [h]
/-- one step more from s -/
theorem wb_one {n : Nat} {rules : List Rule} (ok : Ok n rules) (hn : n ≤ 10) {a : Int} (ha : inR n a) {K : List Int} {f : Int → List Int} {Q : List Int} (w : WI rules a K f Q) {s c : Int} (hs : s ∈ K) (l : Lead rules s c) (s0 s1 s2 : Slot) :
    ∃ K' f' Q', WI rules a K' f' Q' ∧ (∀ k ∈ K, k ∈ K') ∧ c ∈ K' ∧ (∀ k ∈ K', k ∈ K ∨ k ∈ Q') ∧ (∀ q ∈ Q, q ∈ Q') ∧ (∀ q ∈ Q', q ∈ Q ∨ q ∉ K) ∧ K'.length + Q.length = K.length + Q'.length ∧
      B_wb_in [s0, s1, s2, .ow (eDI f K), .ow (li .int Q), .va (.int s), .va (.int c)] = some (.nx [s0, s1, s2, .ow (eDI f' K'), .ow (li .int Q'), .va (.int s), .va (.int c)]) := by
  have hin : ∀ k ∈ K, k ∈ signsL n := fun k hk => mem_signs.mpr ((w.wk k hk).1.rch.inR ok ha)
  have hK : K.length ≤ 20 := by
    have := nodup_len w.nk hin
    rw [signs_len] at this
    omega
  have hQ : Q.length ≤ 20 := Nat.le_trans (nodup_len w.nq w.sub) hK
  by_cases hc : c ∈ K
  · refine ⟨K, f, Q, w, fun k hk => hk, hc, fun k hk => .inl hk, fun q hq => hq, fun q hq => .inl hq, rfl, ?_⟩
    refine (blk_if ?_).trans rfl
    have e := ninD_dI (fun k => eI (f k)) K c
    rw [ev_tr, op_ev (o := ninD) (x := .int c) (y := eDI f K) rfl rfl e]
    simp [hc]
  · have hcQ : c ∉ Q := fun z => hc (w.sub c z)
    have hlen := (w.wk s hs).2
    refine ⟨K ++ [c], fun k => if k = c then f s ++ [c] else f k, Q ++ [c], ⟨?_, ?_, ?_, ?_, ?_⟩, fun k hk => List.mem_append_left _ hk, by simp, ?_, fun q hq => List.mem_append_left _ hq, ?_, by simp; omega, ?_⟩
    · rw [List.nodup_append]
      exact ⟨w.nk, by simp, fun x hx y hy z => hc (by rw [List.mem_singleton.mp hy] at z; rw [← z]; exact hx)⟩
    · rw [List.nodup_append]
      exact ⟨w.nq, by simp, fun x hx y hy z => hcQ (by rw [List.mem_singleton.mp hy] at z; rw [← z]; exact hx)⟩
    · intro q hq
      rcases List.mem_append.mp hq with z | z
      · exact List.mem_append_left _ (w.sub q z)
      · exact List.mem_append_right _ z
    · exact List.mem_append_left _ w.st
    · intro k hk
      by_cases hkc : k = c
      · subst hkc
        simp only [if_true]
        exact ⟨.snoc (w.wk s hs).1 l, by simp; omega⟩
      · simp only [hkc, if_false]
        rcases List.mem_append.mp hk with z | z
        · exact ⟨(w.wk k z).1, by have := (w.wk k z).2; simp; omega⟩
        · exact absurd (List.mem_singleton.mp z) hkc
    · intro k hk
      rcases List.mem_append.mp hk with z | z
      · exact .inl z
      · exact .inr (List.mem_append_right _ z)
    · intro q hq
      rcases List.mem_append.mp hq with z | z
      · exact .inl z
      · right
        rw [List.mem_singleton.mp z]
        exact hc
    · have e := ninD_dI (fun k => eI (f k)) K c
      have hlk := ixD_dI (fun k => eI (f k)) K s hs
      have hok : lenOk ((dI (fun k => eI (f k)) K).length + 1) = true := lenOk_small (by rw [len_dI]; omega)
      have hok2 : lenOk (Q.length + 1) = true := lenOk_small (by omega)
      have hput : putD (dI (fun k => eI (f k)) K) (.int c) (eI (f s ++ [c])) = dI (fun k => eI (if k = c then f s ++ [c] else f k)) (K ++ [c]) := by
        rw [putD_dI, if_neg hc]
        exact dI_congr fun k _ => by by_cases hk : k = c <;> simp [hk]
      refine (blk_nx ?_).trans rfl
      refine (if_t ?_).trans ((blk_nx (r1 := [s0, s1, s2, .ow (eDI (fun k => if k = c then f s ++ [c] else f k) (K ++ [c])), .ow (li .int Q), .va (.int s), .va (.int c)]) ?_).trans ((blk_nx ?_).trans rfl))
      · rw [ev_tr, op_ev (o := ninD) (x := .int c) (y := eDI f K) rfl rfl e]
        simp [hc]
      · have hv : opE addD (opE ixD (bE 3) (vE 5)) (tupE [(vE 6)]) [s0, s1, s2, .ow (eDI f K), .ow (li .int Q), .va (.int s), .va (.int c)] = some (eI (f s ++ [c])) :=
          op_ev (op_ev (x := eDI f K) rfl rfl hlk) rfl (add_one (e := PyData.int) (f s) c (by omega))
        rw [ev_sPut, hv]
        simp only [ev_v, ev_own, List.getElem?_cons_succ, List.getElem?_cons_zero, Option.bind_some, eDI, fitsK_dI, hok, Bool.and_self, if_true, hput]
        rfl
      · rw [ev_sApp]
        simp [li, hok2]
end Dm.M
end

section
set_option Elab.async false
set_option linter.all false
set_option maxRecDepth 100000
set_option maxHeartbeats 1000000
set_option autoImplicit true
/-! K94C: walk_between. -/
namespace Dm.M
open PySem PySem.W
theorem wb_all {n : Nat} {rules : List Rule} (ok : Ok n rules) (hn : n ≤ 10) {a : Int} (ha : inR n a) {s : Int} (s0 s1 s2 : Slot) : ∀ (L : List Int) (K : List Int) (f : Int → List Int) (Q : List Int) (s6 : Slot), WI rules a K f Q → s ∈ K → (∀ c ∈ L, Lead rules s c) →
    ∃ K' f' Q' s6', WI rules a K' f' Q' ∧ (∀ k ∈ K, k ∈ K') ∧ (∀ c ∈ L, c ∈ K') ∧ (∀ k ∈ K', k ∈ K ∨ k ∈ Q') ∧ (∀ q ∈ Q, q ∈ Q') ∧ (∀ q ∈ Q', q ∈ Q ∨ q ∉ K) ∧ K'.length + Q.length = K.length + Q'.length ∧
      forL (.nm 6) B_wb_in (L.map .int) [s0, s1, s2, .ow (eDI f K), .ow (li .int Q), .va (.int s), s6] = some (.nx [s0, s1, s2, .ow (eDI f' K'), .ow (li .int Q'), .va (.int s), s6'])
  | [], K, f, Q, s6, w, _, _ => ⟨K, f, Q, s6, w, fun k h => h, (fun c h => by cases h), fun k h => .inl h, fun q h => h, fun q h => .inl h, rfl, rfl⟩
  | c :: L, K, f, Q, s6, w, hs, hL => by
    obtain ⟨K1, f1, Q1, w1, a1, a2, a3, a4, a5, a6, e1⟩ := wb_one ok hn ha w hs (hL c List.mem_cons_self) s0 s1 s2
    obtain ⟨K2, f2, Q2, s6', w2, b1, b2, b3, b4, b5, b6, e2⟩ := wb_all ok hn ha s0 s1 s2 L K1 f1 Q1 (.va (.int c)) w1 (a1 s hs) fun d hd => hL d (List.mem_cons_of_mem _ hd)
    refine ⟨K2, f2, Q2, s6', w2, fun k h => b1 k (a1 k h), fun d hd => ?_, fun k h => ?_, fun q h => b4 q (a4 q h), fun q h => ?_, by omega, ?_⟩
    · rcases List.mem_cons.mp hd with z | z
      · rw [z]; exact b1 c a2
      · exact b2 d z
    · rcases b3 k h with z | z
      · rcases a3 k z with y | y
        · exact .inl y
        · exact .inr (b4 k y)
      · exact .inr z
    · rcases b5 q h with z | z
      · exact a5 q z
      · exact .inr fun y => z (a1 q y)
    · rw [List.map_cons, forL_nx rfl e1]
      exact e2
def B_wb : S := (blk [(sPop0 (.nm 5) 4), (sFor (seqI (callE F_steps_from [(vE 0), (vE 5)])) (.nm 6) B_wb_in)])
/-- what has left the queue has its steps among the keys -/
def Done (rules : List Rule) (K Q : List Int) : Prop := ∀ k ∈ K, k ∉ Q → ∀ c, Lead rules k c → c ∈ K
theorem wb_loop {n : Nat} {rules : List Rule} (ok : Ok n rules) (hn : n ≤ 10) (hl : rules.length ≤ 20) {a : Int} (ha : inR n a) (s1 s2 : Slot) : ∀ (m fuel : Nat) (K : List Int) (f : Int → List Int) (Q : List Int) (s5 s6 : Slot), WI rules a K f Q → Done rules K Q → 2 * n + Q.length ≤ m + K.length → m < fuel →
    ∃ K' f' s5' s6', WI rules a K' f' [] ∧ Done rules K' [] ∧ whL (trT (bE 4)) B_wb fuel [.va (eL rules), s1, s2, .ow (eDI f K), .ow (li .int Q), s5, s6] = some (.nx [.va (eL rules), s1, s2, .ow (eDI f' K'), .ow (li .int []), s5', s6'])
  | m, 0, K, f, Q, s5, s6, _, _, _, h => by omega
  | m, fuel + 1, K, f, [], s5, s6, w, d, _, _ => ⟨K, f, s5, s6, w, d, by
    rw [whL]
    simp⟩
  | m, fuel + 1, K, f, s :: Q, s5, s6, w, d, hm, hf => by
    have hKn : K.length ≤ 2 * n := by
      have := nodup_len w.nk fun k hk => mem_signs.mpr ((w.wk k hk).1.rch.inR ok ha)
      rwa [signs_len] at this
    have hsQ : s ∉ Q := (List.nodup_cons.mp w.nq).1
    have w0 : WI rules a K f Q := ⟨w.nk, (List.nodup_cons.mp w.nq).2, fun q hq => w.sub q (List.mem_cons_of_mem _ hq), w.st, w.wk⟩
    have hsK := w.sub s List.mem_cons_self
    obtain ⟨K', f', Q', s6', w', a1, a2, a3, a4, a5, a6, e⟩ := wb_all ok hn ha (s := s) (.va (eL rules)) s1 s2 (stepsL rules s) K f Q s6 w0 hsK fun c hc => mem_steps.mp hc
    have d' : Done rules K' Q' := fun k hk hkQ c l => by
      rcases a3 k hk with z | z
      · by_cases hks : k = s
        · subst hks
          exact a2 c (mem_steps.mpr l)
        · refine a1 c (d k z (fun y => ?_) c l)
          rcases List.mem_cons.mp y with q | q
          · exact hks q
          · exact hkQ (a4 k q)
      · exact absurd z hkQ
    obtain ⟨m', rfl⟩ : ∃ m', m = m' + 1 := by
      refine ⟨m - 1, ?_⟩
      simp at hm
      omega
    obtain ⟨K2, f2, s5', s62, w2, d2, e2⟩ := wb_loop ok hn hl ha s1 s2 m' fuel K' f' Q' (.va (.int s)) s6' w' d' (by simp at hm; omega) (by omega)
    refine ⟨K2, f2, s5', s62, w2, d2, ?_⟩
    have hst : seqI (callE F_steps_from [(vE 0), (vE 5)]) [.va (eL rules), s1, s2, .ow (eDI f K), .ow (li .int Q), .va (.int s), s6] = some ((stepsL rules s).map .int) := by
      rw [ev_seq, call2 (x := eL rules) (y := .int s) rfl rfl (steps_eq rules hl s)]
      rfl
    have hb : B_wb [.va (eL rules), s1, s2, .ow (eDI f K), .ow (li .int (s :: Q)), s5, s6] = some (.nx [.va (eL rules), s1, s2, .ow (eDI f' K'), .ow (li .int Q'), .va (.int s), s6']) :=
      (blk_nx (r1 := [.va (eL rules), s1, s2, .ow (eDI f K), .ow (li .int Q), .va (.int s), s6]) (by simp [sPop0, own, li])).trans ((blk_nx ((for_ev hst).trans e)).trans rfl)
    rw [whL]
    have ht : trT (bE 4) [.va (eL rules), s1, s2, .ow (eDI f K), .ow (li .int (s :: Q)), s5, s6] = some true := by simp
    simp only [ht, hb, Option.bind_eq_bind, Option.bind_some, if_true]
    exact e2
theorem walk_eq {n : Nat} {rules : List Rule} (ok : Ok n rules) (hn : n ≤ 10) (hl : rules.length ≤ 20) {a : Int} (ha : inR n a) (b : Int) :
    ∃ w : Option (List Int), F_walk_between [eL rules, .int a, .int b] = some (optI w) ∧ (w = none → ¬ Rch rules a b) ∧ ∀ t, w = some t → Walk rules a b t ∧ t.length ≤ 20 := by
  have w0 : WI rules a [a] (fun _ => [a]) [a] := ⟨by simp, by simp, fun q h => h, by simp, fun k hk => by
    rw [List.mem_singleton.mp hk]
    exact ⟨.one, by simp⟩⟩
  have d0 : Done rules [a] [a] := fun k hk hkQ => absurd hk hkQ
  obtain ⟨K, f, s5, s6, w, d, e⟩ := wb_loop ok hn hl ha (.va (.int a)) (.va (.int b)) (2 * n) 100000 [a] (fun _ => [a]) [a] .no .no w0 d0 (by simp) (by omega)
  have hall : ∀ c, Rch rules a c → c ∈ K := fun c hc => by
    induction hc with
    | refl => exact w.st
    | step _ l ih => exact d _ ih (by simp) _ l
  have hK : K.length ≤ 20 := by
    have := nodup_len w.nk fun k hk => mem_signs.mpr ((w.wk k hk).1.rch.inR ok ha)
    rw [signs_len] at this
    omega
  have hget : get1E (bE 3) (vE 2) [.va (eL rules), .va (.int a), .va (.int b), .ow (eDI f K), .ow (li .int []), s5, s6] = some (optI (if b ∈ K then some (f b) else none)) := by
    have hne : ((dI (fun k => eI (f k)) K).isEmpty) = false := by
      cases hK2 : K with
      | nil => have := w.st; rw [hK2] at this; cases this
      | cons x xs => rfl
    have hlk := lookD_dI (fun k => eI (f k)) K b
    show (do match (← bE 3 [.va (eL rules), .va (.int a), .va (.int b), .ow (eDI f K), .ow (li .int []), s5, s6]) with
      | .dict kvs => do
        let a ← vE 2 [.va (eL rules), .va (.int a), .va (.int b), .ow (eDI f K), .ow (li .int []), s5, s6]
        if fitsK kvs a && !kvs.isEmpty then some ((lookD kvs a).getD .none) else none
      | _ => none) = _
    simp only [ev_b, ev_v, List.getElem?_cons_succ, List.getElem?_cons_zero, Option.bind_eq_bind, Option.bind_some, eDI, fitsK_dI, hne, Bool.not_false, Bool.and_self, if_true, hlk]
    by_cases hb : b ∈ K <;> simp [hb, optI]
  refine ⟨if b ∈ K then some (f b) else none, ?_, fun h r => ?_, fun t h => ?_⟩
  · refine run_def (r0 := [.va (eL rules), .va (.int a), .va (.int b), .no, .no, .no, .no]) (z := .rt _) rfl rfl ((blk_nx (r1 := [.va (eL rules), .va (.int a), .va (.int b), .ow (eDI (fun _ => [a]) [a]), .no, .no, .no]) ?_).trans ((blk_nx (r1 := [.va (eL rules), .va (.int a), .va (.int b), .ow (eDI (fun _ => [a]) [a]), .ow (li .int [a]), .no, .no]) ?_).trans ((blk_nx e).trans (ret_ev hget))))
    · rfl
    · rfl
  · rw [if_pos (hall b r)] at h
    cases h
  · by_cases hb : b ∈ K
    · rw [if_pos hb] at h
      cases h
      exact ⟨(w.wk b hb).1, by have := (w.wk b hb).2; omega⟩
    · rw [if_neg hb] at h
      cases h
end Dm.M
end

section
set_option Elab.async false
set_option linter.all false
set_option maxRecDepth 100000
set_option maxHeartbeats 1000000
set_option autoImplicit true
/-! K94D: flags and reasons. -/
namespace Dm.M
open PySem PySem.W
theorem forL_or {α : Type} {e : α → D} {tg : Tg} {b : S} (I : Dm.Env → Prop) (G : D → Prop) (H : α → Prop) : ∀ (xs : List α) (r : Dm.Env), I r → (∀ x ∈ xs, ∀ r, I r → ∃ r1, asg tg (e x) r = some r1 ∧ ((∃ d, b r1 = some (.rt d) ∧ G d) ∨ (H x ∧ ∃ r2, b r1 = some (.nx r2) ∧ I r2))) →
    (∃ d, forL tg b (xs.map e) r = some (.rt d) ∧ G d) ∨ ((∀ x ∈ xs, H x) ∧ ∃ r', forL tg b (xs.map e) r = some (.nx r') ∧ I r')
  | [], r, h, _ => .inr ⟨(fun x hx => by cases hx), r, rfl, h⟩
  | x :: xs, r, h, hs => by
    obtain ⟨r1, h1, ⟨d, h2, h3⟩ | ⟨h2, r2, h3, h4⟩⟩ := hs x List.mem_cons_self r h
    · left
      refine ⟨d, ?_, h3⟩
      rw [List.map_cons, forL_cons, h1, Option.bind_some, h2]
      rfl
    · rcases forL_or I G H xs r2 h4 fun y hy => hs y (List.mem_cons_of_mem _ hy) with ⟨d, q1, q2⟩ | ⟨q1, r', q2, q3⟩
      · exact .inl ⟨d, by rw [List.map_cons, forL_nx h1 h3]; exact q1, q2⟩
      · refine .inr ⟨fun y hy => ?_, r', by rw [List.map_cons, forL_nx h1 h3]; exact q2, q3⟩
        rcases List.mem_cons.mp hy with z | z
        · rw [z]; exact h2
        · exact q1 y z
theorem comp2L_flat {α β : Type} {e : α → D} {f : β → D} {r : Dm.Env} {tg tg2 : Tg} {ts ts2 : T} {own2 : List Nat} {it2 : I} {el : E} (g : α → List β) : ∀ (xs : List α), (∀ x ∈ xs, ∃ r1 zs, asg tg (e x) r = some r1 ∧ ts r1 = some true ∧ it2 r1 = some zs ∧ compL (wipeE r1 own2) tg2 ts2 el zs = some ((g x).map f)) →
    comp2L r tg ts own2 it2 tg2 ts2 el (xs.map e) = some ((xs.flatMap g).map f)
  | [], _ => rfl
  | x :: xs, h => by
    obtain ⟨r1, zs, h1, h2, h3, h4⟩ := h x List.mem_cons_self
    have ih := comp2L_flat (f := f) g xs fun y hy => h y (List.mem_cons_of_mem _ hy)
    rw [List.map_cons, comp2L]
    simp only [Option.bind_eq_bind, h1, Option.bind_some, h2, if_true, h3, h4, ih, List.flatMap_cons, List.map_append]
/-! ### walks that are judged -/
def Chain (rules : List Rule) (t : List Int) : Prop := ∀ (i : Nat) (x y : Int), t[i]? = some x → t[i + 1]? = some y → Lead rules x y
theorem Walk.chain {rules : List Rule} {a b : Int} {t : List Int} (h : Walk rules a b t) : Chain rules t := by
  induction h with
  | one =>
    intro i x y h1 h2
    simp at h2
  | snoc w l ih =>
    rename_i b c t
    intro i x y h1 h2
    have hl := w.last
    by_cases hi : i + 1 < t.length
    · rw [List.getElem?_append_left (by omega)] at h1
      rw [List.getElem?_append_left hi] at h2
      exact ih i x y h1 h2
    · have h3 := (List.getElem?_eq_some_iff.mp h2).1
      simp at h3
      have e1 : i + 1 = t.length := by omega
      rw [List.getElem?_append_left (by omega)] at h1
      rw [e1, List.getElem?_append_right (Nat.le_refl _), Nat.sub_self] at h2
      simp at h2
      rw [List.getLast?_eq_getElem?] at hl
      have e2 : t.length - 1 = i := by omega
      rw [e2, h1] at hl
      rw [← h2, Option.some.inj hl]
      exact l
theorem Walk.inR {n : Nat} {rules : List Rule} (ok : Ok n rules) {a b : Int} {t : List Int} (ha : Dm.M.inR n a) (h : Walk rules a b t) : ∀ s ∈ t, Dm.M.inR n s := by
  induction h with
  | one =>
    intro s hs
    rw [List.mem_singleton.mp hs]
    exact ha
  | snoc w l ih =>
    intro s hs
    rcases List.mem_append.mp hs with z | z
    · exact ih s z
    · rw [List.mem_singleton.mp z]
      exact (l.inR ok).2
theorem Walk.app {rules : List Rule} {a b c : Int} {t u : List Int} (h : Walk rules a b t) (k : Walk rules b c u) : Walk rules a c (t ++ u.tail) := by
  induction k with
  | one => simpa using h
  | snoc w l ih =>
    rename_i x y v
    have e : (v ++ [y]).tail = v.tail ++ [y] := by
      cases v with
      | nil => exact absurd rfl w.ne
      | cons z v => rfl
    rw [e, ← List.append_assoc]
    exact ih.snoc l
theorem absD_int (a : Int) : absD (.int a) = some (.int (a.natAbs : Int)) := by
  show some (PyData.int (if a < 0 then -a else a)) = _
  congr 2
  split <;> omega
theorem is_walk_true {n : Nat} {rules : List Rule} (hl : rules.length ≤ 20) {t : List Int} (ht : t.length ≤ 100) (hne : t ≠ []) (hr : ∀ s ∈ t, inR n s) (hc : Chain rules t) : F_is_walk [.int n, eL rules, eI t] = some (.bool true) := by
  have hlen := List.length_pos_iff.mpr hne
  have c1 : allE [3] (seqI (vE 2)) (.nm 3) noT (chE leD leD (kE (.int 1)) (unE absD (vE 3)) (vE 0)) [.va (.int n), .va (eL rules), .va (eI t), .no, .no] = some (.bool true) := by
    refine (all_ev (e := PyData.int) (fun _ => true) (xs := t) rfl fun s hs => ⟨_, rfl, rfl, ?_⟩).trans (by simp)
    have h1 := (hr s hs).1
    have h2 := (hr s hs).2
    have e1 : (1 : Int) ≤ (s.natAbs : Int) := by omega
    have e2 : (s.natAbs : Int) ≤ (n : Int) := by omega
    rw [ev_ch]
    simp only [ev_k, Option.bind_some, ev_un, ev_wipe1, ev_wipe0, List.set_cons_succ, List.set_cons_zero, ev_v, List.getElem?_cons_succ, List.getElem?_cons_zero, absD_int, leD_int, e1, e2, decide_true]
  have hrg : rgI (kE (.int 0)) (opE subD (unE lenD (vE 2)) (kE (.int 1))) [.va (.int n), .va (eL rules), .va (eI t), .no, .no] = some ((List.range (t.length - 1)).map fun i : Nat => .int (i : Int)) := by
    rw [rg_ev (x := 0) (y := (t.length : Int) - 1) (by simp) (by simp) (by omega) (by omega), rangeL_sub]
  refine run_def (r0 := [.va (.int n), .va (eL rules), .va (eI t), .no, .no]) (z := .rt (.bool true)) rfl rfl ((blk_if ?_).trans (ret_ev ?_))
  · have e : ¬ (t.length : Int) = 0 := by omega
    rw [ev_or, ev_not, ev_tr (a := allE _ _ _ _ _), c1]
    simp [hne]
  · refine (all_ev (e := fun i : Nat => PyData.int (i : Int)) (fun _ => true) hrg fun i hi => ⟨_, rfl, rfl, ?_⟩).trans (by simp)
    have hi' := List.mem_range.mp hi
    obtain ⟨x, hx⟩ : ∃ x, t[i]? = some x := ⟨_, List.getElem?_eq_getElem (by omega)⟩
    obtain ⟨y, hy⟩ : ∃ y, t[i + 1]? = some y := ⟨_, List.getElem?_eq_getElem (by omega)⟩
    have hl2 := hc i x y hx hy
    refine op_ev (x := .int y) (y := li .int (stepsL rules x)) (by simp [hy]) (call2 (x := eL rules) (y := .int x) rfl (by simp [hx]) (steps_eq rules hl x)) ?_
    rw [inD_lsi]
    simp [mem_steps.mpr hl2]
/-! ### rows -/
theorem holds_eq {row : List Int} {s : Int} (h0 : s ≠ 0) (hs : s.natAbs ≤ row.length) : F_holds_in [eI row, .int s] = some (.bool (hasS row s)) := by
  refine run_def (r0 := [.va (eI row), .va (.int s)]) (z := .rt _) rfl rfl (ret_ev ?_)
  have e1 : atL row ((s.natAbs : Int) - 1) = some (row.getD (s.natAbs - 1) 0) := by
    rw [atL_getD row 0 (by omega) (by omega)]
    congr 2
    omega
  have h1 : opE ixD (vE 0) (opE subD (unE absD (vE 1)) (kE (.int 1))) [.va (eI row), .va (.int s)] = some (.int (row.getD (s.natAbs - 1) 0)) :=
    op_ev (x := eI row) (y := .int ((s.natAbs : Int) - 1)) rfl (op_ev (x := .int (s.natAbs : Int)) (by rw [ev_un]; exact absD_int s) rfl rfl) (by rw [ixD_tu, e1]; rfl)
  have h2 : ifE (trT (opE gtD (vE 1) (kE (.int 0)))) (kE (.int 1)) (kE (.int 0)) [.va (eI row), .va (.int s)] = some (.int (if s > 0 then 1 else 0)) := by
    by_cases h : s > 0 <;> simp [h]
  exact op_ev h1 h2 (eqD_int _ _)
theorem obeys_eq {n : Nat} {row : List Int} (hr : row.length = n) {r : Rule} (h1 : inR n r.1) (h2 : inR n r.2) : F_obeys [eI row, pr .int .int r] = some (.bool (!hasS row r.1 || hasS row r.2)) := by
  refine run_def (r0 := [.va (eI row), .va (pr .int .int r)]) (z := .rt _) rfl rfl (ret_ev ?_)
  have a1 := call2 (F := F_holds_in) (a := vE 0) (b := opE ixD (vE 1) (kE (.int 1))) (r := [.va (eI row), .va (pr .int .int r)]) (x := eI row) (y := .int r.2) rfl rfl (holds_eq h2.1 (by have := h2.2; omega))
  have a2 := call2 (F := F_holds_in) (a := vE 0) (b := opE ixD (vE 1) (kE (.int 0))) (r := [.va (eI row), .va (pr .int .int r)]) (x := eI row) (y := .int r.1) rfl rfl (holds_eq h1.1 (by have := h1.2; omega))
  rw [ev_orE, a1, ev_notE, a2]
  cases hasS row r.1 <;> cases hasS row r.2 <;> rfl
theorem are_switches_eq {n : Nat} {rules : List Rule} (ok : Ok n rules) {row : List Int} (hr : row ∈ allSw n) : F_are_switches [.int n, eL rules, eI row] = some (.bool (sat rules row)) := by
  obtain ⟨h1, h2⟩ := (allSw_mem n row).mp hr
  have c1 : allE [3] (seqI (vE 2)) (.nm 3) noT (opE inD (vE 3) (tupE [(kE (.int 0)), (kE (.int 1))])) [.va (.int n), .va (eL rules), .va (eI row), .no, .no] = some (.bool true) := by
    refine (all_ev (e := PyData.int) (fun _ => true) (xs := row) rfl fun s hs => ⟨_, rfl, rfl, ?_⟩).trans (by simp)
    refine op_ev (x := .int s) (y := eI [0, 1]) rfl rfl ?_
    rw [inD_ti]
    rcases h2 s hs with rfl | rfl <;> simp
  refine run_def (r0 := [.va (.int n), .va (eL rules), .va (eI row), .no, .no]) (z := .rt _) rfl rfl ((blk_if ?_).trans (ret_ev ?_))
  · rw [ev_or, ev_not, ev_tr (a := allE _ _ _ _ _), c1]
    simp [h1]
  · refine all_ev (e := pr PyData.int PyData.int) (fun r : Rule => !hasS row r.1 || hasS row r.2) (xs := rules) rfl fun r hr => ⟨_, rfl, rfl, ?_⟩
    exact call2 (x := eI row) (y := pr .int .int r) rfl rfl (obeys_eq h1 (ok.a r hr) (ok.b r hr))
theorem all_switches_eq (n : Nat) (hn : n ≤ 10) : F_all_switches [.int n] = some (li (tu .int) (allSw n)) := by
  have hr : rgI (kE (.int 0)) (vE 0) [.va (.int n), .va (li (tu .int) [[]]), .no, .no, .no] = some ((List.range n).map fun i : Nat => .int (i : Int)) := by
    rw [rg_ev (x := 0) (y := (n : Int)) rfl rfl (by omega) (by omega), rangeL_nat]
  obtain ⟨r', q, s2, rfl⟩ := forL_range (tg := .nm 2) (b := (blk [(sAsg (.nm 1) (lstI (comp2I [3, 4] (seqI (vE 1)) (.nm 3) noT [4] (seqI (tupE [(kE (.int 0)), (kE (.int 1))])) (.nm 4) noT (opE addD (vE 3) (tupE [(vE 4)])))))])) (fun k r => ∃ s2, r = [.va (.int n), .va (li (tu .int) (allSw k)), s2, .no, .no]) n [.va (.int n), .va (li (tu .int) [[]]), .no, .no, .no] ⟨_, rfl⟩ (by
    rintro k r hk ⟨s2, rfl⟩
    refine ⟨_, _, rfl, .inl ((blk_nx (r1 := [.va (.int n), .va (li (tu .int) (allSw (k + 1))), .va (.int k), .no, .no]) ?_).trans rfl), _, rfl⟩
    have hlen : (allSw k).length ≤ 1024 := by
      rw [allSw_len]
      have : 2 ^ k ≤ 2 ^ 10 := Nat.pow_le_pow_right (by decide) (by omega)
      omega
    have hlen2 : (allSw (k + 1)).length ≤ 2048 := by
      rw [allSw_len, Nat.pow_succ, ← allSw_len]
      omega
    have hc := comp2L_flat (e := tu PyData.int) (f := tu PyData.int) (r := [.va (.int n), .va (li (tu .int) (allSw k)), .va (.int k), .no, .no]) (tg := .nm 3) (ts := noT) (own2 := [4]) (it2 := seqI (tupE [(kE (.int 0)), (kE (.int 1))])) (tg2 := .nm 4) (ts2 := noT) (el := opE addD (vE 3) (tupE [(vE 4)])) (fun row => [row ++ [0], row ++ [1]]) (allSw k) (fun row hrow => by
      have hl := ((allSw_mem k row).mp hrow).1
      refine ⟨_, [.int 0, .int 1], rfl, rfl, rfl, ?_⟩
      have a1 := add_one (e := PyData.int) row 0 (by omega)
      have a2 := add_one (e := PyData.int) row 1 (by omega)
      simp [compL, a1, a2])
    rw [ev_sAsg, ev_lstI]
    show (((seqI (vE 1) [.va (.int n), .va (li (tu .int) (allSw k)), .va (.int k), .no, .no]).bind fun xs => (comp2L (wipeE [.va (.int n), .va (li (tu .int) (allSw k)), .va (.int k), .no, .no] [3, 4]) (.nm 3) noT [4] (seqI (tupE [(kE (.int 0)), (kE (.int 1))])) (.nm 4) noT (opE addD (vE 3) (tupE [(vE 4)])) xs).bind fitL).bind fun xs => some (PyData.list xs)).bind _ = _
    have hs : seqI (vE 1) [.va (.int n), .va (li (tu .int) (allSw k)), .va (.int k), .no, .no] = some ((allSw k).map (tu .int)) := rfl
    have hw : wipeE [.va (.int n), .va (li (tu .int) (allSw k)), .va (.int k), .no, .no] [3, 4] = [.va (.int n), .va (li (tu .int) (allSw k)), .va (.int k), .no, .no] := rfl
    rw [hs, Option.bind_some, hw, hc, Option.bind_some, fitL_ok (by rw [List.length_map]; exact Nat.le_trans hlen2 (by decide))]
    rfl)
  exact run_def (r0 := [.va (.int n), .no, .no, .no, .no]) (z := .rt _) rfl rfl ((blk_nx (r1 := [.va (.int n), .va (li (tu .int) [[]]), .no, .no, .no]) rfl).trans ((blk_nx ((for_ev hr).trans q)).trans (ret_ev rfl)))
theorem told_switches_eq {n : Nat} {rules : List Rule} (ok : Ok n rules) (hn : n ≤ 10) : F_told_switches [.int n, eL rules] = some (optI (every n rules).head?) := by
  have hseq : seqI (callE F_all_switches [(vE 0)]) [.va (.int n), .va (eL rules), .no] = some ((allSw n).map (tu .int)) := by
    rw [ev_seq, call1 (x := .int n) rfl (all_switches_eq n hn)]
    rfl
  obtain ⟨v1, v2⟩ := forL_find (e := tu PyData.int) (tg := .nm 2) (b := blk [(sIf (trT (callE F_are_switches [(vE 0), (vE 1), (vE 2)])) (blk [(sRet (vE 2))]) (blk []))]) (fun r => ∃ s2, r = [.va (.int n), .va (eL rules), s2]) (sat rules) (tu .int) (allSw n) [.va (.int n), .va (eL rules), .no] ⟨_, rfl⟩ (by
    rintro row hrow r ⟨s2, rfl⟩
    have c := call3 (F := F_are_switches) (a := vE 0) (b := vE 1) (c := vE 2) (r := [.va (.int n), .va (eL rules), .va (eI row)]) (x := .int n) (y := eL rules) (w := eI row) rfl rfl rfl (are_switches_eq ok hrow)
    refine ⟨_, rfl, fun hp => ?_, fun hp => ⟨[.va (.int n), .va (eL rules), .va (eI row)], .inl ?_, _, rfl⟩⟩
    · rw [hp] at c
      exact blk_ifr (by rw [ev_tr]; show (callE F_are_switches [(vE 0), (vE 1), (vE 2)] [.va (.int n), .va (eL rules), .va (eI row)]).bind truD = _; rw [c]; rfl) rfl
    · rw [hp] at c
      exact (blk_if (by rw [ev_tr]; show (callE F_are_switches [(vE 0), (vE 1), (vE 2)] [.va (.int n), .va (eL rules), .va (eI row)]).bind truD = _; rw [c]; rfl)).trans rfl)
  have eh : (every n rules).head? = (allSw n).find? (sat rules) := by
    unfold every
    rw [List.head?_filter]
  rw [eh]
  cases hf : (allSw n).find? (sat rules) with
  | some row => exact run_def (r0 := [.va (.int n), .va (eL rules), .no]) (z := .rt _) rfl rfl (blk_rt ((for_ev hseq).trans (v1 row hf)))
  | none =>
    obtain ⟨r', q, _⟩ := v2 hf
    exact run_def (r0 := [.va (.int n), .va (eL rules), .no]) (z := .rt .none) rfl rfl ((blk_nx ((for_ev hseq).trans q)).trans (ret_ev rfl))
end Dm.M
end

section
set_option Elab.async false
set_option linter.all false
set_option maxRecDepth 100000
set_option maxHeartbeats 1000000
set_option autoImplicit true
/-! K94E: tangles and reasons. -/
namespace Dm.M
open PySem PySem.W
def Tangle (n : Nat) (rules : List Rule) (t : List Int) : Prop := ∃ s, inR n s ∧ Walk rules s s t ∧ -s ∈ t
theorem notND_opt (w : Option (List Int)) : notND (optI w) = some (.bool w.isSome) := by cases w <;> rfl
theorem Walk.mem_last {rules : List Rule} {a b : Int} {t : List Int} (h : Walk rules a b t) : b ∈ t := List.mem_of_getLast? h.last
theorem tangle_eq {n : Nat} {rules : List Rule} (ok : Ok n rules) (hn : n ≤ 10) (hl : rules.length ≤ 20) :
    ∃ w : Option (List Int), F_tangle_of [.int n, eL rules] = some (optI w) ∧ (w = none → ¬ Stuck n rules) ∧ ∀ t, w = some t → Tangle n rules t ∧ t.length ≤ 40 := by
  have hr : rgI (kE (.int 1)) (opE addD (vE 0) (kE (.int 1))) [.va (.int n), .va (eL rules), .no, .no, .no] = some ((List.range' 1 n).map fun i : Nat => .int (i : Int)) := by
    rw [rg_ev (x := 1) (y := (n : Int) + 1) rfl (op_ev rfl rfl (addD_int _ _)) (by omega) (by omega)]
    exact congrArg some (rangeL_nats 1 (n + 1))
  rcases forL_or (e := fun i : Nat => PyData.int (i : Int)) (tg := .nm 2) (b := (blk [(sAsg (.nm 3) (callE F_walk_between [(vE 1), (vE 2), (opE subD (kE (.int 0)) (vE 2))])), (sAsg (.nm 4) (callE F_walk_between [(vE 1), (opE subD (kE (.int 0)) (vE 2)), (vE 2)])), (sIf (andT (trT (unE notND (vE 3))) (trT (unE notND (vE 4)))) (blk [(sRet (opE addD (vE 3) (cutE (vE 4) (some (kE (.int 1))) none)))]) (blk []))]))
      (fun r => ∃ s2 s3 s4, r = [.va (.int n), .va (eL rules), s2, s3, s4]) (fun d => ∃ t, d = eI t ∧ Tangle n rules t ∧ t.length ≤ 40) (fun i => ¬ (Rch rules (i : Int) (-(i : Int)) ∧ Rch rules (-(i : Int)) (i : Int))) (List.range' 1 n) [.va (.int n), .va (eL rules), .no, .no, .no] ⟨_, _, _, rfl⟩ (by
    rintro i hi r ⟨s2, s3, s4, rfl⟩
    have hi' := List.mem_range'_1.mp hi
    have ii : inR n (i : Int) := ⟨by omega, by omega⟩
    have en : (0 : Int) - (i : Int) = -(i : Int) := by omega
    obtain ⟨w1, a1, a2, a3⟩ := walk_eq ok hn hl ii (-(i : Int))
    obtain ⟨w2, b1, b2, b3⟩ := walk_eq ok hn hl ii.neg (i : Int)
    have hneg : ∀ s3 s4, opE subD (kE (.int 0)) (vE 2) [.va (.int n), .va (eL rules), .va (.int i), s3, s4] = some (.int (-(i : Int))) := fun s3 s4 => op_ev rfl rfl (by rw [subD_int, en])
    have e1 : sAsg (.nm 3) (callE F_walk_between [(vE 1), (vE 2), (opE subD (kE (.int 0)) (vE 2))]) [.va (.int n), .va (eL rules), .va (.int i), s3, s4] = some (.nx [.va (.int n), .va (eL rules), .va (.int i), .va (optI w1), s4]) := by
      rw [ev_sAsg, call3 (x := eL rules) (y := .int i) rfl rfl (hneg _ _) a1]
      rfl
    have e2 : sAsg (.nm 4) (callE F_walk_between [(vE 1), (opE subD (kE (.int 0)) (vE 2)), (vE 2)]) [.va (.int n), .va (eL rules), .va (.int i), .va (optI w1), s4] = some (.nx [.va (.int n), .va (eL rules), .va (.int i), .va (optI w1), .va (optI w2)]) := by
      rw [ev_sAsg, call3 (x := eL rules) (w := .int i) rfl (hneg _ _) rfl b1]
      rfl
    have e3 : andT (trT (unE notND (vE 3))) (trT (unE notND (vE 4))) [.va (.int n), .va (eL rules), .va (.int i), .va (optI w1), .va (optI w2)] = some (w1.isSome && w2.isSome) := by
      rw [ev_and, ev_tr, ev_un]
      simp only [ev_v, List.getElem?_cons_succ, List.getElem?_cons_zero, Option.bind_some, notND_opt, truD_bool, ev_tr, ev_un]
      cases w1.isSome <;> simp
    refine ⟨_, rfl, ?_⟩
    cases w1 with
    | none =>
      right
      refine ⟨fun z => a2 rfl z.1, _, (blk_nx e1).trans ((blk_nx e2).trans ((blk_if e3).trans rfl)), _, _, _, rfl⟩
    | some t =>
      cases w2 with
      | none =>
        right
        refine ⟨fun z => b2 rfl z.2, _, (blk_nx e1).trans ((blk_nx e2).trans ((blk_if e3).trans rfl)), _, _, _, rfl⟩
      | some u =>
        left
        obtain ⟨t1, t2⟩ := a3 t rfl
        obtain ⟨u1, u2⟩ := b3 u rfl
        refine ⟨eI (t ++ u.tail), (blk_nx e1).trans ((blk_nx e2).trans (blk_ifr e3 ?_)), t ++ u.tail, rfl, ⟨(i : Int), ii, t1.app u1, List.mem_append_left _ t1.mem_last⟩, by simp; omega⟩
        have ec : cutE (vE 4) (some (kE (.int 1))) none [.va (.int n), .va (eL rules), .va (.int i), .va (optI (some t)), .va (optI (some u))] = some (eI u.tail) := by
          have : cutL u (some 1) none = u.tail := by
            rw [show (1 : Int) = ((1 : Nat) : Int) from rfl, cutL_from, List.drop_one]
          rw [ev_cut]
          simp only [ev_v, ev_part1, ev_part0, ev_k, List.getElem?_cons_succ, List.getElem?_cons_zero, Option.bind_some, optI, cutD_tu, this]
        exact op_ev (x := eI t) rfl ec (addD_tu _ _ (by simp; omega))) with ⟨d, q, t, rfl, h1, h2⟩ | ⟨h1, r', q, _⟩
  · exact ⟨some t, run_def (r0 := [.va (.int n), .va (eL rules), .no, .no, .no]) (z := .rt _) rfl rfl (blk_rt ((for_ev hr).trans q)), (fun h => by cases h), fun u hu => by cases hu; exact ⟨h1, h2⟩⟩
  · refine ⟨none, run_def (r0 := [.va (.int n), .va (eL rules), .no, .no, .no]) (z := .rt .none) rfl rfl ((blk_nx ((for_ev hr).trans q)).trans (ret_ev rfl)), fun _ ⟨s, hs, k1, k2⟩ => ?_, fun u hu => by cases hu⟩
    have hm : s.natAbs ∈ List.range' 1 n := List.mem_range'_1.mpr ⟨by have := hs.1; omega, by have := hs.2; omega⟩
    refine h1 _ hm ?_
    by_cases hp : s > 0
    · have e : (s.natAbs : Int) = s := by omega
      rw [e]
      exact ⟨k1, k2⟩
    · have e : (s.natAbs : Int) = -s := by have := hs.1; omega
      rw [e, Int.neg_neg]
      exact ⟨k2, k1⟩
theorem is_tangle_true {n : Nat} {rules : List Rule} (ok : Ok n rules) (hl : rules.length ≤ 20) {t : List Int} (h : Tangle n rules t) (ht : t.length ≤ 40) : F_is_tangle [.int n, eL rules, eI t] = some (.bool true) := by
  obtain ⟨s, h1, h2, h3⟩ := h
  have hw := is_walk_true hl (by omega) h2.ne (h2.inR ok h1) h2.chain (n := n)
  have e0 : opE ixD (vE 2) (kE (.int 0)) [.va (.int n), .va (eL rules), .va (eI t)] = some (.int s) := op_ev (x := eI t) rfl rfl (by rw [ixD_tu, atL_zero, h2.head]; rfl)
  have e1 : opE ixD (vE 2) (unE negD (kE (.int 1))) [.va (.int n), .va (eL rules), .va (eI t)] = some (.int s) := op_ev (x := eI t) (y := .int (-1)) rfl rfl (by rw [ixD_tu, atL_last, h2.last]; rfl)
  refine run_def (r0 := [.va (.int n), .va (eL rules), .va (eI t)]) (z := .rt _) rfl rfl (ret_ev ?_)
  rw [ev_andE, call3 (x := .int n) (y := eL rules) (w := eI t) rfl rfl rfl hw, Option.bind_some, truD_bool, Option.bind_some, if_pos rfl, ev_andE, op_ev e0 e1 (eqD_int s s)]
  simp only [decide_true, Option.bind_some, truD_bool, if_true]
  refine op_ev (x := .int (0 - s)) (y := eI t) (op_ev rfl e0 rfl) rfl ?_
  rw [inD_ti, show (0 : Int) - s = -s by omega]
  simp [h3]
/-! ### reasons -/
def endsL (a b : Int) : List Rule := [(a, b), (a, 0 - a), (0 - b, b)]
theorem ends_eq (a b : Int) : F_ends_for [pr .int .int (a, b)] = some (tu (pr .int .int) (endsL a b)) :=
  run_def (r0 := [.va (pr .int .int (a, b)), .no, .no]) (z := .rt _) rfl rfl ((blk_nx (r1 := [.va (pr .int .int (a, b)), .va (.int a), .va (.int b)]) (by
    rw [ev_sAsg]
    simp only [ev_v, List.getElem?_cons_zero, Option.bind_some, ev_pr]
    rfl)).trans (ret_ev rfl))
/-- what a told reason is -/
def RsOk (n : Nat) (rules : List Rule) (a b : Int) (t : List Int) : Prop := (∃ x y, (x, y) ∈ endsL a b ∧ inR n x ∧ Walk rules x y t) ∨ Tangle n rules t
theorem ends_inR {n : Nat} {a b : Int} (ha : inR n a) (hb : inR n b) {x y : Int} (h : (x, y) ∈ endsL a b) : inR n x := by
  simp only [endsL, List.mem_cons, List.not_mem_nil, or_false, Prod.mk.injEq] at h
  rcases h with ⟨rfl, _⟩ | ⟨rfl, _⟩ | ⟨rfl, _⟩
  · exact ha
  · exact ha
  · have := hb.neg
    rwa [show (0 : Int) - b = -b by omega]
theorem reason_eq {n : Nat} {rules : List Rule} (ok : Ok n rules) (hn : n ≤ 10) (hl : rules.length ≤ 20) {a b : Int} (ha : inR n a) (hb : inR n b) :
    ∃ w : Option (List Int), F_reason_for [.int n, eL rules, pr .int .int (a, b)] = some (optI w) ∧ (w = none → ¬ ReasonAt n rules a b) ∧ ∀ t, w = some t → RsOk n rules a b t ∧ t.length ≤ 40 := by
  obtain ⟨tw, t1, t2, t3⟩ := tangle_eq ok hn hl
  have hseq : seqI (callE F_ends_for [(vE 2)]) [.va (.int n), .va (eL rules), .va (pr .int .int (a, b)), .no, .no, .no] = some ((endsL a b).map (pr .int .int)) := by
    rw [ev_seq, call1 (x := pr .int .int (a, b)) rfl (ends_eq a b)]
    rfl
  rcases forL_or (e := pr PyData.int PyData.int) (tg := .tp [(.nm 3), (.nm 4)]) (b := (blk [(sAsg (.nm 5) (callE F_walk_between [(vE 1), (vE 3), (vE 4)])), (sIf (trT (unE notND (vE 5))) (blk [(sRet (vE 5))]) (blk []))]))
      (fun r => ∃ s3 s4 s5, r = [.va (.int n), .va (eL rules), .va (pr .int .int (a, b)), s3, s4, s5]) (fun d => ∃ t, d = eI t ∧ RsOk n rules a b t ∧ t.length ≤ 40) (fun p => ¬ Rch rules p.1 p.2) (endsL a b) [.va (.int n), .va (eL rules), .va (pr .int .int (a, b)), .no, .no, .no] ⟨_, _, _, rfl⟩ (by
    rintro ⟨x, y⟩ hp r ⟨s3, s4, s5, rfl⟩
    have hx := ends_inR ha hb hp
    obtain ⟨w, a1, a2, a3⟩ := walk_eq ok hn hl hx y
    have e1 : sAsg (.nm 5) (callE F_walk_between [(vE 1), (vE 3), (vE 4)]) [.va (.int n), .va (eL rules), .va (pr .int .int (a, b)), .va (.int x), .va (.int y), s5] = some (.nx [.va (.int n), .va (eL rules), .va (pr .int .int (a, b)), .va (.int x), .va (.int y), .va (optI w)]) := by
      rw [ev_sAsg, call3 (x := eL rules) (y := .int x) (w := .int y) rfl rfl rfl a1]
      rfl
    have e3 : trT (unE notND (vE 5)) [.va (.int n), .va (eL rules), .va (pr .int .int (a, b)), .va (.int x), .va (.int y), .va (optI w)] = some w.isSome := by
      rw [ev_tr, ev_un]
      simp only [ev_v, List.getElem?_cons_succ, List.getElem?_cons_zero, Option.bind_some, notND_opt, truD_bool]
    refine ⟨_, ev_pr _ _ _ _ _ _, ?_⟩
    cases w with
    | none => exact .inr ⟨a2 rfl, _, (blk_nx e1).trans ((blk_if e3).trans rfl), _, _, _, rfl⟩
    | some t =>
      obtain ⟨k1, k2⟩ := a3 t rfl
      exact .inl ⟨eI t, (blk_nx e1).trans (blk_ifr e3 rfl), t, rfl, .inl ⟨x, y, hp, hx, k1⟩, by omega⟩) with ⟨d, q, t, rfl, h1, h2⟩ | ⟨h1, r', q, s3, s4, s5, rfl⟩
  · exact ⟨some t, run_def (r0 := [.va (.int n), .va (eL rules), .va (pr .int .int (a, b)), .no, .no, .no]) (z := .rt _) rfl rfl (blk_rt ((for_ev hseq).trans q)), (fun h => by cases h), fun u hu => by cases hu; exact ⟨h1, h2⟩⟩
  · refine ⟨tw, run_def (r0 := [.va (.int n), .va (eL rules), .va (pr .int .int (a, b)), .no, .no, .no]) (z := .rt _) rfl rfl ((blk_nx ((for_ev hseq).trans q)).trans (ret_ev (call2 (x := .int n) (y := eL rules) rfl rfl t1))), fun hw hra => ?_, fun t ht => ⟨.inr (t3 t ht).1, (t3 t ht).2⟩⟩
    have g1 := h1 (a, b) (by simp [endsL])
    have g2 := h1 (a, 0 - a) (by simp [endsL])
    have g3 := h1 (0 - b, b) (by simp [endsL])
    simp only [Int.zero_sub] at g2 g3
    rcases hra with z | z | z | z
    · exact g1 z
    · exact g2 z
    · exact g3 z
    · exact t2 hw z
theorem RsOk.reason {n : Nat} {rules : List Rule} {a b : Int} {t : List Int} (h : RsOk n rules a b t) : ReasonAt n rules a b := by
  rcases h with ⟨x, y, h1, _, h2⟩ | ⟨s, h1, h2, h3⟩
  · have r := h2.rch
    simp only [endsL, List.mem_cons, List.not_mem_nil, or_false, Prod.mk.injEq, Int.zero_sub] at h1
    rcases h1 with ⟨rfl, rfl⟩ | ⟨rfl, rfl⟩ | ⟨rfl, rfl⟩
    · exact .inl r
    · exact .inr (.inl r)
    · exact .inr (.inr (.inl r))
  · refine .inr (.inr (.inr ⟨s, h1, ?_⟩))
    have key : ∀ {a c : Int} {u : List Int}, Walk rules a c u → ∀ z ∈ u, Rch rules a z ∧ Rch rules z c := by
      intro a c u w
      induction w with
      | one =>
        intro z hz
        rw [List.mem_singleton.mp hz]
        exact ⟨.refl, .refl⟩
      | snoc w l ih =>
        intro z hz
        rcases List.mem_append.mp hz with y | y
        · exact ⟨(ih z y).1, (ih z y).2.step l⟩
        · rw [List.mem_singleton.mp y]
          exact ⟨w.rch.step l, .refl⟩
    exact key h2 _ h3
/-- do the rules ask for it: said by the rows -/
def folB (n : Nat) (rules : List Rule) (a b : Int) : Bool := (every n rules).all fun row => !hasS row a || hasS row b
theorem folB_iff {n : Nat} {rules : List Rule} (ok : Ok n rules) {a b : Int} (ha : inR n a) (hb : inR n b) : folB n rules a b = true ↔ ReasonAt n rules a b := by
  rw [← follows_iff ok ha hb]
  unfold folB
  rw [List.all_eq_true]
  constructor
  · intro h row hr hra
    have := h row hr
    simpa [hra] using this
  · intro h row hr
    cases hra : hasS row a with
    | false => rfl
    | true => rw [h row hr hra]; rfl
theorem does_follow_eq {n : Nat} {rules : List Rule} (ok : Ok n rules) (hn : n ≤ 10) (hl : rules.length ≤ 20) {a b : Int} (ha : inR n a) (hb : inR n b) : F_does_follow [.int n, eL rules, pr .int .int (a, b)] = some (.bool (folB n rules a b)) := by
  obtain ⟨w, h1, h2, h3⟩ := reason_eq ok hn hl ha hb
  refine run_def (r0 := [.va (.int n), .va (eL rules), .va (pr .int .int (a, b))]) (z := .rt _) rfl rfl (ret_ev ?_)
  rw [ev_un, call3 (x := .int n) (y := eL rules) (w := pr .int .int (a, b)) rfl rfl rfl h1, Option.bind_some, notND_opt]
  congr 2
  rw [Bool.eq_iff_iff, folB_iff ok ha hb]
  cases w with
  | none => exact ⟨(fun h => by cases h), fun h => absurd h (h2 rfl)⟩
  | some t => exact ⟨fun _ => (h3 t rfl).1.reason, fun _ => rfl⟩
theorem is_reason_true {n : Nat} {rules : List Rule} (ok : Ok n rules) (hl : rules.length ≤ 20) {a b : Int} {t : List Int} (h : RsOk n rules a b t) (ht : t.length ≤ 40) : F_is_reason [.int n, eL rules, pr .int .int (a, b), eI t] = some (.bool true) := by
  obtain ⟨x, y, hx, hw⟩ : ∃ x y, inR n x ∧ Walk rules x y t := by
    rcases h with ⟨x, y, _, h1, h2⟩ | ⟨s, h1, h2, _⟩
    · exact ⟨x, y, h1, h2⟩
    · exact ⟨s, s, h1, h2⟩
  have hwt := is_walk_true hl (by omega) hw.ne (hw.inR ok hx) hw.chain (n := n)
  have e0 : opE ixD (vE 3) (kE (.int 0)) [.va (.int n), .va (eL rules), .va (pr .int .int (a, b)), .va (eI t)] = some (.int x) := op_ev (x := eI t) rfl rfl (by rw [ixD_tu, atL_zero, hw.head]; rfl)
  have e1 : opE ixD (vE 3) (unE negD (kE (.int 1))) [.va (.int n), .va (eL rules), .va (pr .int .int (a, b)), .va (eI t)] = some (.int y) := op_ev (x := eI t) (y := .int (-1)) rfl rfl (by rw [ixD_tu, atL_last, hw.last]; rfl)
  have e2 : tupE [(opE ixD (vE 3) (kE (.int 0))), (opE ixD (vE 3) (unE negD (kE (.int 1))))] [.va (.int n), .va (eL rules), .va (pr .int .int (a, b)), .va (eI t)] = some (pr .int .int (x, y)) := by
    rw [ev_tup, ev_args1, e0, ev_args1, e1]
    rfl
  have e3 : opE inD (tupE [(opE ixD (vE 3) (kE (.int 0))), (opE ixD (vE 3) (unE negD (kE (.int 1))))]) (callE F_ends_for [(vE 2)]) [.va (.int n), .va (eL rules), .va (pr .int .int (a, b)), .va (eI t)] = some (.bool (decide ((x, y) ∈ endsL a b))) :=
    op_ev e2 (call1 (x := pr .int .int (a, b)) rfl (ends_eq a b)) ((inD_tu (e := pr PyData.int PyData.int) (x, y) (endsL a b)).trans (by congr))
  refine run_def (r0 := [.va (.int n), .va (eL rules), .va (pr .int .int (a, b)), .va (eI t)]) (z := .rt _) rfl rfl ((blk_if ?_).trans (ret_ev ?_))
  · rw [ev_not, ev_tr, call3 (x := .int n) (y := eL rules) (w := eI t) rfl rfl rfl hwt]
    rfl
  · rw [ev_orE, e3]
    by_cases hm : (x, y) ∈ endsL a b
    · simp [hm]
    · rcases h with ⟨x', y', h1, h2, h3⟩ | h
      · have q1 := h3.head.symm.trans hw.head
        have q2 := h3.last.symm.trans hw.last
        cases q1
        cases q2
        exact absurd h1 hm
      · have := call3 (F := F_is_tangle) (a := vE 0) (b := vE 1) (c := vE 3) (r := [.va (.int n), .va (eL rules), .va (pr .int .int (a, b)), .va (eI t)]) rfl rfl rfl (is_tangle_true ok hl h ht)
        simp only [hm, decide_false, Option.bind_some, truD_bool, Bool.false_eq_true, if_false, this]
def less (rules : List Rule) (r : Rule) : List Rule := rules.filter fun o => !decide (o = r)
theorem without_eq (rules : List Rule) (hl : rules.length ≤ 20) (r : Rule) : F_without [eL rules, pr .int .int r] = some (eL (less rules r)) := by
  have c := comp_ev (e := pr PyData.int PyData.int) (f := pr PyData.int PyData.int) (own := [2]) (it := seqI (vE 0)) (tg := .nm 2) (ts := trT (opE neD (vE 2) (vE 1))) (el := vE 2) (r := [.va (eL rules), .va (pr .int .int r), .no]) (xs := rules) (fun o => !decide (o = r)) id rfl (by omega) (fun o ho => ⟨_, rfl, by
    rw [ev_tr, op_ev (x := pr .int .int o) (y := pr .int .int r) rfl rfl (neD_enc (e := pr PyData.int PyData.int) o r)]
    rfl, fun _ => rfl⟩)
  rw [List.map_id] at c
  exact run_def (r0 := [.va (eL rules), .va (pr .int .int r), .no]) (z := .rt _) rfl rfl (ret_ev (tupl_ev c))
theorem Ok.less {n : Nat} {rules : List Rule} (ok : Ok n rules) (r : Rule) : Ok n (less rules r) := ⟨fun o ho => ok.a o (List.mem_filter.mp ho).1, fun o ho => ok.b o (List.mem_filter.mp ho).1⟩
theorem less_len (rules : List Rule) (r : Rule) : (less rules r).length ≤ rules.length := List.length_filter_le _ _
def spare (n : Nat) (rules : List Rule) : List Rule := rules.filter fun r => folB n (less rules r) r.1 r.2
theorem spare_eq {n : Nat} {rules : List Rule} (ok : Ok n rules) (hn : n ≤ 10) (hl : rules.length ≤ 20) : F_spare_rules [.int n, eL rules] = some (eL (spare n rules)) := by
  have c := comp_ev (e := pr PyData.int PyData.int) (f := pr PyData.int PyData.int) (own := [2]) (it := seqI (vE 1)) (tg := .nm 2) (ts := trT (callE F_does_follow [(vE 0), (callE F_without [(vE 1), (vE 2)]), (vE 2)])) (el := vE 2) (r := [.va (.int n), .va (eL rules), .no]) (xs := rules) (fun r => folB n (less rules r) r.1 r.2) id rfl (by omega) (fun r hr => ⟨_, rfl, by
    have h1 := does_follow_eq (ok.less r) hn (Nat.le_trans (less_len rules r) hl) (ok.a r hr) (ok.b r hr)
    rw [ev_tr, call3 (x := .int n) (w := pr .int .int r) rfl (call2 (x := eL rules) (y := pr .int .int r) rfl rfl (without_eq rules hl r)) rfl h1]
    rfl, fun _ => rfl⟩)
  rw [List.map_id] at c
  exact run_def (r0 := [.va (.int n), .va (eL rules), .no]) (z := .rt _) rfl rfl (ret_ev (tupl_ev c))
end Dm.M
end

section
set_option Elab.async false
set_option linter.all false
set_option maxRecDepth 100000
set_option maxHeartbeats 1000000
set_option autoImplicit true
/-! K94G: the law's leads, what is reached, what is alive. -/
namespace Dm.M
open PySem PySem.W
/-! ### sorted sets of pairs -/
def encP (p : Int × Int) : List Int := [p.1, p.2]
def decP (l : List Int) : Int × Int := (l.getD 0 0, l.getD 1 0)
theorem mem_dedupT' (a : List Int) : ∀ xs : List (List Int), a ∈ dedupT xs ↔ a ∈ xs
  | [] => Iff.rfl
  | x :: xs => by
    unfold dedupT
    split
    · rename_i h
      rw [mem_dedupT' a xs]
      exact ⟨List.mem_cons_of_mem _, fun q => (List.mem_cons.mp q).elim (fun z => z ▸ h) id⟩
    · rw [List.mem_cons, List.mem_cons, mem_dedupT' a xs]
theorem nodup_dedupT' : ∀ xs : List (List Int), (dedupT xs).Nodup
  | [] => List.nodup_nil
  | x :: xs => by
    unfold dedupT
    split
    · exact nodup_dedupT' xs
    · rename_i h
      exact List.nodup_cons.mpr ⟨fun q => h ((mem_dedupT' x xs).mp q), nodup_dedupT' xs⟩
theorem dedupT_len : ∀ xs : List (List Int), (dedupT xs).length ≤ xs.length
  | [] => Nat.le_refl _
  | x :: xs => by
    unfold dedupT
    split
    · exact Nat.le_succ_of_le (dedupT_len xs)
    · exact Nat.succ_le_succ (dedupT_len xs)
def srtP (ps : List (Int × Int)) : List (Int × Int) := ((dedupT (ps.map encP)).map decP).mergeSort fun a b => leB (pr .int .int a) (pr .int .int b)
theorem mem_srtP {ps : List (Int × Int)} {p : Int × Int} : p ∈ srtP ps ↔ p ∈ ps := by
  unfold srtP
  rw [(List.mergeSort_perm _ _).mem_iff, List.mem_map]
  constructor
  · rintro ⟨l, hl, rfl⟩
    obtain ⟨q, hq, rfl⟩ := List.mem_map.mp ((mem_dedupT' _ _).mp hl)
    exact hq
  · intro h
    exact ⟨encP p, (mem_dedupT' _ _).mpr (List.mem_map_of_mem h), rfl⟩
theorem srtP_len (ps : List (Int × Int)) : (srtP ps).length ≤ ps.length := by
  unfold srtP
  rw [List.length_mergeSort, List.length_map]
  refine Nat.le_trans (dedupT_len _) ?_
  rw [List.length_map]
  exact Nat.le_refl _
theorem srtP_nodup (ps : List (Int × Int)) : (srtP ps).Nodup := by
  unfold srtP
  rw [(List.mergeSort_perm _ _).nodup_iff]
  have h1 := nodup_dedupT' (ps.map encP)
  unfold List.Nodup at *
  rw [List.pairwise_map]
  refine List.Pairwise.imp_of_mem (fun {a b} ha hb hne e => hne ?_) h1
  obtain ⟨p, _, rfl⟩ := List.mem_map.mp ((mem_dedupT' _ _).mp ha)
  obtain ⟨q, _, rfl⟩ := List.mem_map.mp ((mem_dedupT' _ _).mp hb)
  have : p = q := e
  rw [this]
theorem tupsOf_pairs : ∀ ps : List (Int × Int), tupsOf (ps.map (pr .int .int)) = some (ps.map encP)
  | [] => rfl
  | p :: ps => by
    rw [List.map_cons, tupsOf.eq_def]
    show (do
      let a ← intsOf [.int p.1, .int p.2]
      let b ← tupsOf (ps.map (pr .int .int))
      some (a :: b)) = _
    rw [tupsOf_pairs ps]
    rfl
theorem sortSetA_pairs (ps : List (Int × Int)) (h : ps.length < 64) : sortSetA (li (pr .int .int) ps) = some (li (pr .int .int) (srtP ps)) := by
  cases ps with
  | nil =>
    have e : srtP [] = [] := by
      have := srtP_len []
      exact List.eq_nil_of_length_eq_zero (by simpa using this)
    rw [e]
    have e2 : ssI [] = [] := by simp [ssI, dedupI]
    have := sortSetA_ints [] (by simp)
    rw [e2] at this
    exact this
  | cons p ps =>
    have h1 : sortSetD (li (pr .int .int) (p :: ps)) = none := rfl
    have h2 : sortSetTD (li (pr .int .int) (p :: ps)) = some (.list (((dedupT ((p :: ps).map encP)).map tupD').mergeSort leB)) := by
      show (match tupsOf ((p :: ps).map (pr .int .int)) with
        | some ns => if decide (ns.length < 64) && ns.all (fun n => !n.isEmpty) then some (PyData.list (((dedupT ns).map tupD').mergeSort leB)) else none
        | none => none) = _
      rw [tupsOf_pairs]
      have hb : (decide (((p :: ps).map encP).length < 64) && ((p :: ps).map encP).all (fun n => !n.isEmpty)) = true := by
        rw [Bool.and_eq_true]
        refine ⟨decide_eq_true (by rw [List.length_map]; exact h), ?_⟩
        rw [List.all_eq_true]
        intro l hl
        obtain ⟨q, _, rfl⟩ := List.mem_map.mp hl
        rfl
      simp only [hb, if_true]
    unfold sortSetA
    rw [h1]
    show sortSetTD _ = _
    rw [h2]
    unfold srtP li
    rw [List.map_mergeSort (r := fun a b => leB (pr .int .int a) (pr .int .int b)) (s := leB) (f := pr .int .int) (fun a _ b _ => rfl), List.map_map]
    congr 3
    refine List.map_congr_left fun l hl => ?_
    obtain ⟨q, _, rfl⟩ := List.mem_map.mp ((mem_dedupT' _ _).mp hl)
    rfl
/-! ### leads -/
def leadsL (rules : List Rule) : List Rule := srtP (rules.map (fun r => (r.1, r.2)) ++ rules.map fun r => (0 - r.2, 0 - r.1))
theorem mem_leads {rules : List Rule} {a b : Int} : (a, b) ∈ leadsL rules ↔ Lead rules a b := by
  unfold leadsL Lead
  rw [mem_srtP, List.mem_append, List.mem_map, List.mem_map]
  constructor
  · rintro (⟨r, h, e⟩ | ⟨r, h, e⟩)
    · left
      rw [← e]
      exact h
    · right
      have e1 := (Prod.mk.injEq _ _ _ _).mp e
      have : (-b, -a) = r := Prod.ext (by rw [← e1.2]; simp) (by rw [← e1.1]; simp)
      rw [this]
      exact h
  · rintro (h | h)
    · exact .inl ⟨_, h, rfl⟩
    · exact .inr ⟨_, h, by simp⟩
theorem leads_len (rules : List Rule) : (leadsL rules).length ≤ 2 * rules.length := by
  refine Nat.le_trans (srtP_len _) ?_
  rw [List.length_append, List.length_map, List.length_map]
  omega
abbrev eLs : List Rule → D := li (pr .int .int)
theorem leads_eq (rules : List Rule) (hl : rules.length ≤ 20) : F__law_leads [eL rules] = some (eLs (leadsL rules)) := by
  have c1 := comp_ev_all (e := pr PyData.int PyData.int) (f := pr PyData.int PyData.int) (own := [1, 2]) (it := seqI (vE 0)) (tg := .tp [(.nm 1), (.nm 2)]) (ts := noT) (el := tupE [(vE 1), (vE 2)]) (r := [.va (eL rules), .no, .no]) (xs := rules) (fun r => (r.1, r.2)) rfl (by omega) (fun r hr => ⟨_, ev_pr _ _ _ _ _ _, rfl, rfl⟩)
  have c2 := comp_ev_all (e := pr PyData.int PyData.int) (f := pr PyData.int PyData.int) (own := [1, 2]) (it := seqI (vE 0)) (tg := .tp [(.nm 1), (.nm 2)]) (ts := noT) (el := tupE [(opE subD (kE (.int 0)) (vE 2)), (opE subD (kE (.int 0)) (vE 1))]) (r := [.va (eL rules), .no, .no]) (xs := rules) (fun r => (0 - r.2, 0 - r.1)) rfl (by omega) (fun r hr => ⟨_, ev_pr _ _ _ _ _ _, rfl, rfl⟩)
  refine run_def (r0 := [.va (eL rules), .no, .no]) (z := .rt _) rfl rfl (ret_ev ?_)
  rw [ev_un, op_ev (lst_ev c1) (lst_ev c2) (addD_li _ _ (by rw [List.length_map, List.length_map]; omega)), Option.bind_some]
  exact sortSetA_pairs _ (by rw [List.length_append, List.length_map, List.length_map]; omega)
/-! ### what is reached, in rounds -/
def ClosedL (ls : List (Int × Int)) (K : List Int) : Prop := ∀ p ∈ ls, p.1 ∈ K → p.2 ∈ K
theorem newL_nil {ls : List (Int × Int)} {K : List Int} (h : ClosedL ls K) : newL ls K = [] := by
  rw [List.eq_nil_iff_forall_not_mem]
  intro b hb
  obtain ⟨h1, a, h2, h3⟩ := mem_newL.mp hb
  exact h1 (h _ h3 h2)
theorem addL_closed {ls : List (Int × Int)} {K : List Int} (h : ClosedL ls K) : addL ls K = K := by
  unfold addL
  rw [newL_nil h]
  simp [dedupI]
theorem aliveL_closed {ls : List (Int × Int)} : ∀ (m : Nat) {K : List Int}, ClosedL ls K → aliveL ls m K = K
  | 0, _, _ => rfl
  | m + 1, K, h => by
    rw [aliveL, addL_closed h]
    exact aliveL_closed m h
theorem not_closed {ls : List (Int × Int)} {K : List Int} (h : ¬ ClosedL ls K) : ∃ p ∈ ls, p.1 ∈ K ∧ p.2 ∉ K := by
  obtain ⟨p, hp⟩ := Classical.not_forall.mp h
  obtain ⟨h1, h2⟩ := Classical.not_imp.mp hp
  obtain ⟨h3, h4⟩ := Classical.not_imp.mp h2
  exact ⟨p, h1, h3, h4⟩
theorem alive_grow {ls : List (Int × Int)} : ∀ (m : Nat) {K : List Int}, K.Nodup → ClosedL ls (aliveL ls m K) ∨ K.length + m ≤ (aliveL ls m K).length
  | 0, K, _ => .inr (Nat.le_refl _)
  | m + 1, K, hn => by
    by_cases h : ClosedL ls K
    · left
      rw [aliveL_closed _ h]
      exact h
    · rw [aliveL]
      rcases alive_grow m (addL_nodup (ls := ls) hn) with q | q
      · exact .inl q
      · right
        obtain ⟨p, h1, h2, h3⟩ := not_closed h
        have : K.length + 1 ≤ (addL ls K).length := nodup_len (xs := p.2 :: K) (List.nodup_cons.mpr ⟨h3, hn⟩) (fun a ha => by
          rcases List.mem_cons.mp ha with z | z
          · rw [z]
            exact mem_addL.mpr (.inr ⟨p.1, h2, h1⟩)
          · exact mem_addL.mpr (.inl z))
        omega
theorem fold_closed {ls : List (Int × Int)} {K : List Int} : ∀ (ms : List (Int × Int)), (∀ p ∈ ms, p ∈ ls) → ClosedL ls K → ms.foldl stepL K = K
  | [], _, _ => rfl
  | p :: ms, hm, h => by
    have : stepL K p = K := by
      unfold stepL
      split
      · rename_i h1
        rw [if_pos (h p (hm p List.mem_cons_self) h1)]
      · rfl
    rw [List.foldl_cons, this]
    exact fold_closed ms (fun q hq => hm q (List.mem_cons_of_mem _ hq)) h
theorem reach_closed {ls : List (Int × Int)} : ∀ (m : Nat) {K : List Int}, ClosedL ls K → reach ls m K = K
  | 0, _, _ => rfl
  | m + 1, K, h => by
    rw [reach, fold_closed ls (fun p hp => hp) h]
    exact reach_closed m h
theorem reach_grow {ls : List (Int × Int)} : ∀ (m : Nat) {K : List Int}, K.Nodup → ClosedL ls (reach ls m K) ∨ K.length + m ≤ (reach ls m K).length
  | 0, K, _ => .inr (Nat.le_refl _)
  | m + 1, K, hn => by
    by_cases h : ClosedL ls K
    · left
      rw [reach_closed _ h]
      exact h
    · rw [reach]
      rcases reach_grow m (fold_nodup (ls := ls) hn) with q | q
      · exact .inl q
      · right
        obtain ⟨p, h1, h2, h3⟩ := not_closed h
        have : K.length + 1 ≤ (ls.foldl stepL K).length := nodup_len (xs := p.2 :: K) (List.nodup_cons.mpr ⟨h3, hn⟩) (fun a ha => by
          rcases List.mem_cons.mp ha with z | z
          · rw [z]
            exact fold_hit ls K p h1 h2
          · exact fold_sub ls K a z)
        omega
theorem alive_sub {ls : List (Int × Int)} : ∀ (m : Nat) {K : List Int}, ∀ a ∈ K, a ∈ aliveL ls m K
  | 0, _, a, h => h
  | m + 1, K, a, h => alive_sub m a (mem_addL.mpr (.inl h))
theorem alive_ok {ls : List (Int × Int)} {P : Int → Prop} (hl : ∀ p ∈ ls, P p.1 → P p.2) : ∀ (m : Nat) {K : List Int}, (∀ a ∈ K, P a) → ∀ a ∈ aliveL ls m K, P a
  | 0, _, h => h
  | m + 1, K, h => alive_ok hl m fun a ha => by
    rcases mem_addL.mp ha with z | ⟨x, hx, hp⟩
    · exact h a z
    · exact hl (x, a) hp (h x hx)
theorem reach_sub {ls : List (Int × Int)} : ∀ (m : Nat) {K : List Int}, ∀ a ∈ K, a ∈ reach ls m K
  | 0, _, a, h => h
  | m + 1, K, a, h => reach_sub m a (fold_sub ls K a h)
theorem reach_ok {ls : List (Int × Int)} {P : Int → Prop} (hl : ∀ p ∈ ls, P p.1 → P p.2) : ∀ (m : Nat) {K : List Int}, (∀ a ∈ K, P a) → ∀ a ∈ reach ls m K, P a
  | 0, _, h => h
  | m + 1, K, h => reach_ok hl m (fold_ok h hl)
def rchL (n : Nat) (rules : List Rule) (s : Int) : List Int := aliveL (leadsL rules) (2 * n) [s]
theorem mem_rch {n : Nat} {rules : List Rule} (ok : Ok n rules) {s : Int} (hs : inR n s) {a : Int} : a ∈ rchL n rules s ↔ Rch rules s a := by
  unfold rchL
  have hin := alive_ok (ls := leadsL rules) (P := fun a => Rch rules s a) (fun p hp h => h.step (mem_leads.mp hp)) (2 * n) (K := [s]) (fun a ha => by rw [List.mem_singleton.mp ha]; exact .refl)
  refine ⟨hin a, fun h => ?_⟩
  have hcl : ClosedL (leadsL rules) (aliveL (leadsL rules) (2 * n) [s]) := by
    rcases alive_grow (ls := leadsL rules) (2 * n) (K := [s]) (by simp) with q | q
    · exact q
    · have := nodup_len (aliveL_nodup (ls := leadsL rules) (n := 2 * n) (K := [s]) (by simp)) (ys := signsL n) fun a ha => mem_signs.mpr ((hin a ha).inR ok hs)
      rw [signs_len] at this
      simp at q
      omega
  induction h with
  | refl => exact alive_sub _ _ (by simp)
  | step _ l ih => exact hcl _ (mem_leads.mpr l) ih
theorem rch_nodup (n : Nat) (rules : List Rule) (s : Int) : (rchL n rules s).Nodup := aliveL_nodup (by simp)
theorem rch_len {n : Nat} {rules : List Rule} (ok : Ok n rules) {s : Int} (hs : inR n s) : (rchL n rules s).length ≤ 2 * n := by
  have := nodup_len (rch_nodup n rules s) (ys := signsL n) fun a ha => mem_signs.mpr (((mem_rch ok hs).mp ha).inR ok hs)
  rwa [signs_len] at this
theorem law_reach_eq {n : Nat} {rules : List Rule} (ok : Ok n rules) (hn : n ≤ 10) (hl : rules.length ≤ 20) {s : Int} (hs : inR n s) : F__law_reach [.int n, eL rules, .int s] = some (li .int (rchL n rules s)) := by
  have hll := leads_len rules
  have hr : rgI (kE (.int 0)) (opE mulI (kE (.int 2)) (vE 0)) [.va (.int n), .va (eL rules), .va (.int s), .va (li .int [s]), .no, .no, .no] = some ((List.range (2 * n)).map fun i : Nat => .int (i : Int)) := by
    rw [rg_ev (x := 0) (y := ((2 * n : Nat) : Int)) rfl (op_ev rfl rfl ((mulI_ok' 2 (n : Int) (by decide)).trans (by congr))) (by omega) (by omega), rangeL_nat]
  obtain ⟨r', q, s4, rfl⟩ := forL_range (tg := .nm 4) (b := (blk [(sAsg (.nm 3) (opE addD (vE 3) (unE sortSetA (lstI (compI [5, 6] (seqI (callE F__law_leads [(vE 1)])) (.tp [(.nm 5), (.nm 6)]) (andT (trT (opE inD (vE 5) (vE 3))) (trT (opE ninD (vE 6) (vE 3)))) (vE 6))))))]))
      (fun k r => ∃ s4, r = [.va (.int n), .va (eL rules), .va (.int s), .va (li .int (aliveL (leadsL rules) k [s])), s4, .no, .no]) (2 * n) [.va (.int n), .va (eL rules), .va (.int s), .va (li .int [s]), .no, .no, .no] ⟨_, rfl⟩ (by
    rintro k r hk ⟨s4, rfl⟩
    refine ⟨_, _, rfl, .inl ((blk_nx (r1 := [.va (.int n), .va (eL rules), .va (.int s), .va (li .int (aliveL (leadsL rules) (k + 1) [s])), .va (.int k), .no, .no]) ?_).trans rfl), _, rfl⟩
    have hlen : (aliveL (leadsL rules) k [s]).length ≤ 2 * n := by
      have hin := alive_ok (ls := leadsL rules) (P := fun a => Rch rules s a) (fun p hp h => h.step (mem_leads.mp hp)) k (K := [s]) (fun a ha => by rw [List.mem_singleton.mp ha]; exact .refl)
      have := nodup_len (aliveL_nodup (ls := leadsL rules) (n := k) (K := [s]) (by simp)) (ys := signsL n) fun a ha => mem_signs.mpr ((hin a ha).inR ok hs)
      rwa [signs_len] at this
    rw [aliveL_snoc]
    generalize aliveL (leadsL rules) k [s] = K at *
    have hsq : seqI (callE F__law_leads [(vE 1)]) [.va (.int n), .va (eL rules), .va (.int s), .va (li .int K), .va (.int k), .no, .no] = some ((leadsL rules).map (pr .int .int)) := by
      rw [ev_seq, call1 (x := eL rules) rfl (leads_eq rules hl)]
      rfl
    have c := comp_ev (e := pr PyData.int PyData.int) (f := PyData.int) (own := [5, 6]) (tg := .tp [(.nm 5), (.nm 6)]) (ts := andT (trT (opE inD (vE 5) (vE 3))) (trT (opE ninD (vE 6) (vE 3)))) (el := vE 6) (fun p : Int × Int => decide (p.1 ∈ K) && !decide (p.2 ∈ K)) (fun p => p.2) hsq (by omega) (fun p hp => ⟨_, ev_pr _ _ _ _ _ _, by
      by_cases h1 : p.1 ∈ K <;> simp [h1], fun _ => by simp⟩)
    have hnl := newL_len (leadsL rules) K
    have hsa : unE sortSetA (lstI (compI [5, 6] (seqI (callE F__law_leads [(vE 1)])) (.tp [(.nm 5), (.nm 6)]) (andT (trT (opE inD (vE 5) (vE 3))) (trT (opE ninD (vE 6) (vE 3)))) (vE 6))) [.va (.int n), .va (eL rules), .va (.int s), .va (li .int K), .va (.int k), .no, .no] = some (li .int (ssI (newL (leadsL rules) K))) := by
      rw [ev_un, lst_ev c, Option.bind_some]
      exact sortSetA_ints (newL (leadsL rules) K) (by omega)
    have hsl := ssI_len (newL (leadsL rules) K)
    show sAsg (.nm 3) _ [.va (.int n), .va (eL rules), .va (.int s), .va (li .int K), .va (.int k), .no, .no] = _
    rw [ev_sAsg, op_ev (x := li .int K) rfl hsa (addD_li _ _ (by omega))]
    rfl)
  exact run_def (r0 := [.va (.int n), .va (eL rules), .va (.int s), .no, .no, .no, .no]) (z := .rt _) rfl rfl ((blk_nx (r1 := [.va (.int n), .va (eL rules), .va (.int s), .va (li .int [s]), .no, .no, .no]) rfl).trans ((blk_nx ((for_ev hr).trans q)).trans (ret_ev rfl)))
end Dm.M
end

section
set_option Elab.async false
set_option linter.all false
set_option maxRecDepth 100000
set_option maxHeartbeats 1000000
set_option autoImplicit true
/-! K94H: places, signs, what is alive, rows of the law. -/
namespace Dm.M
open PySem PySem.W
def place (n : Nat) (s : Int) : Int := if s > 0 then s - 1 else (n : Int) - s - 1
theorem place_eq (n : Nat) (s : Int) : F__law_place [.int n, .int s] = some (.int (place n s)) := by
  refine run_def (r0 := [.va (.int n), .va (.int s)]) (z := .rt _) rfl rfl (ret_ev ?_)
  unfold place
  by_cases h : s > 0 <;> simp [h]
theorem place_inj {n : Nat} {a b : Int} (ha : inR n a) (hb : inR n b) (h : place n a = place n b) : a = b := by
  obtain ⟨a1, a2⟩ := ha
  obtain ⟨b1, b2⟩ := hb
  unfold place at h
  split at h <;> split at h <;> omega
theorem place_range {n : Nat} {a : Int} (ha : inR n a) : 0 ≤ place n a ∧ place n a < 2 * n := by
  obtain ⟨a1, a2⟩ := ha
  unfold place
  split <;> omega
theorem signs_eq (n : Nat) (hn : n ≤ 10) : F__law_signs [.int n] = some (li .int (signsL n)) := by
  have hr : rgI (kE (.int 0)) (vE 0) [.va (.int n), .no] = some ((List.range n).map fun i : Nat => .int (i : Int)) := by
    rw [rg_ev (x := 0) (y := (n : Int)) rfl rfl (by omega) (by omega), rangeL_nat]
  have c1 := comp_ev_all (e := fun i : Nat => PyData.int (i : Int)) (f := PyData.int) (own := [1]) (tg := .nm 1) (ts := noT) (el := opE addD (vE 1) (kE (.int 1))) (fun i : Nat => (i : Int) + 1) hr (by simp; omega) (fun i hi => ⟨_, rfl, rfl, rfl⟩)
  have c2 := comp_ev_all (e := fun i : Nat => PyData.int (i : Int)) (f := PyData.int) (own := [1]) (tg := .nm 1) (ts := noT) (el := opE subD (opE subD (kE (.int 0)) (vE 1)) (kE (.int 1))) (fun i : Nat => 0 - (i : Int) - 1) hr (by simp; omega) (fun i hi => ⟨_, rfl, rfl, rfl⟩)
  refine run_def (r0 := [.va (.int n), .no]) (z := .rt _) rfl rfl (ret_ev ?_)
  exact op_ev (lst_ev c1) (lst_ev c2) (addD_li _ _ (by simp; omega))
/-! ### the cells that are alive -/
def spots (n : Nat) (rules : List Rule) (s : Int) : List Int := ((rchL n rules s).map (place n)).mergeSort fun a b => decide (a ≤ b)
theorem mem_spots {n : Nat} {rules : List Rule} {s x : Int} : x ∈ spots n rules s ↔ ∃ a ∈ rchL n rules s, place n a = x := by
  unfold spots
  rw [mem_sort, List.mem_map]
theorem spots_asc {n : Nat} {rules : List Rule} (ok : Ok n rules) {s : Int} (hs : inR n s) : (spots n rules s).Pairwise (· < ·) := by
  refine asc_sort ?_
  have h := rch_nodup n rules s
  unfold List.Nodup at *
  rw [List.pairwise_map]
  refine List.Pairwise.imp_of_mem (fun {a b} ha hb hne e => hne ?_) h
  exact place_inj (((mem_rch ok hs).mp ha).inR ok hs) (((mem_rch ok hs).mp hb).inR ok hs) e
theorem spots_len {n : Nat} {rules : List Rule} (ok : Ok n rules) {s : Int} (hs : inR n s) : (spots n rules s).length ≤ 2 * n := by
  unfold spots
  rw [List.length_mergeSort, List.length_map]
  exact rch_len ok hs
def alv (n : Nat) (rules : List Rule) (s : Int) : List Int := (signsL n).filter fun o => decide (place n o ∈ spots n rules s)
theorem mem_alv {n : Nat} {rules : List Rule} (ok : Ok n rules) {s : Int} (hs : inR n s) {o : Int} : o ∈ alv n rules s ↔ Rch rules s o := by
  unfold alv
  rw [List.mem_filter, mem_signs, decide_eq_true_eq, mem_spots]
  constructor
  · rintro ⟨h1, a, h2, h3⟩
    have hr := (mem_rch ok hs).mp h2
    rw [← place_inj (hr.inR ok hs) h1 h3]
    exact hr
  · intro h
    exact ⟨h.inR ok hs, o, (mem_rch ok hs).mpr h, rfl⟩
theorem law_alive_eq {n : Nat} {rules : List Rule} (ok : Ok n rules) (hn : n ≤ 10) (hl : rules.length ≤ 20) {s : Int} (hs : inR n s) : F__law_alive [.int n, eL rules, .int s] = some (li .int (alv n rules s)) := by
  have hll := leads_len rules
  have hlen := rch_len ok hs
  have hsl := spots_len ok hs
  have hsq : seqI (callE F__law_leads [(vE 1)]) [.va (.int n), .va (eL rules), .va (.int s), .no, .no, .no, .no, .no, .no] = some ((leadsL rules).map (pr .int .int)) := by
    rw [ev_seq, call1 (x := eL rules) rfl (leads_eq rules hl)]
    rfl
  have c1 := comp_ev_all (e := pr PyData.int PyData.int) (f := pr PyData.int PyData.int) (own := [6, 7]) (tg := .tp [(.nm 6), (.nm 7)]) (ts := noT) (el := tupE [(callE F__law_place [(vE 0), (vE 6)]), (callE F__law_place [(vE 0), (vE 7)])]) (fun p : Int × Int => (place n p.1, place n p.2)) hsq (by omega) (fun p hp => ⟨_, ev_pr _ _ _ _ _ _, rfl, by
    rw [ev_tup, ev_args1, call2 (x := .int n) (y := .int p.1) rfl rfl (place_eq n p.1), ev_args1, call2 (x := .int n) (y := .int p.2) rfl rfl (place_eq n p.2)]
    rfl⟩)
  have hso := sortLD_enc (e := pr PyData.int PyData.int) ((leadsL rules).map fun p => (place n p.1, place n p.2)) (by decide) (by rw [List.length_map]; omega) (headT_of _ fun p hp => rfl)
  have t1 : tupI (seqI (unE sortLD (lstI (compI [6, 7] (seqI (callE F__law_leads [(vE 1)])) (.tp [(.nm 6), (.nm 7)]) noT (tupE [(callE F__law_place [(vE 0), (vE 6)]), (callE F__law_place [(vE 0), (vE 7)])]))))) [.va (.int n), .va (eL rules), .va (.int s), .no, .no, .no, .no, .no, .no] = some (eL (srt (pr .int .int) ((leadsL rules).map fun p => (place n p.1, place n p.2)))) := by
    rw [ev_tupI, ev_seq, ev_un, lst_ev c1, Option.bind_some, hso]
    rfl
  generalize hlk : srt (pr PyData.int PyData.int) ((leadsL rules).map fun p => (place n p.1, place n p.2)) = links at *
  have hlinks : ∀ x y, (x, y) ∈ links ↔ ∃ a b, Lead rules a b ∧ place n a = x ∧ place n b = y := fun x y => by
    rw [← hlk, mem_srt, List.mem_map]
    constructor
    · rintro ⟨⟨a, b⟩, h1, h2⟩
      have := (Prod.mk.injEq _ _ _ _).mp h2
      exact ⟨a, b, mem_leads.mp h1, this.1, this.2⟩
    · rintro ⟨a, b, h1, h2, h3⟩
      exact ⟨(a, b), mem_leads.mpr h1, by rw [h2, h3]⟩
  have hlkl : links.length ≤ 40 := by
    rw [← hlk, srt_len, List.length_map]
    omega
  have hsq2 : seqI (callE F__law_reach [(vE 0), (vE 1), (vE 2)]) [.va (.int n), .va (eL rules), .va (.int s), .va (eL links), .no, .no, .no, .no, .no] = some ((rchL n rules s).map .int) := by
    rw [ev_seq, call3 (x := .int n) (y := eL rules) (w := .int s) rfl rfl rfl (law_reach_eq ok hn hl hs)]
    rfl
  have c2 := comp_ev_all (e := PyData.int) (f := PyData.int) (own := [8]) (tg := .nm 8) (ts := noT) (el := callE F__law_place [(vE 0), (vE 8)]) (place n) hsq2 (by omega) (fun a ha => ⟨_, rfl, rfl, call2 (x := .int n) (y := .int a) rfl rfl (place_eq n a)⟩)
  have t2 : unE sortLD (lstI (compI [8] (seqI (callE F__law_reach [(vE 0), (vE 1), (vE 2)])) (.nm 8) noT (callE F__law_place [(vE 0), (vE 8)]))) [.va (.int n), .va (eL rules), .va (.int s), .va (eL links), .no, .no, .no, .no, .no] = some (li .int (spots n rules s)) := by
    rw [ev_un, lst_ev c2, Option.bind_some, sortL_ints _ (by rw [List.length_map]; omega)]
    rfl
  have hreach : ∀ x, x ∈ reach links (2 * n) [place n s] ↔ x ∈ spots n rules s := by
    intro x
    rw [mem_spots]
    have hin := reach_ok (ls := links) (P := fun x => ∃ a, Rch rules s a ∧ place n a = x) (fun p hp => by
      rintro ⟨a, h1, h2⟩
      obtain ⟨a', b', h3, h4, h5⟩ := (hlinks p.1 p.2).mp hp
      have := place_inj (h1.inR ok hs) (h3.inR ok).1 (h2.trans h4.symm)
      subst this
      exact ⟨b', h1.step h3, h5⟩) (2 * n) (K := [place n s]) (fun a ha => ⟨s, .refl, (List.mem_singleton.mp ha).symm⟩)
    constructor
    · intro h
      obtain ⟨a, h1, h2⟩ := hin x h
      exact ⟨a, (mem_rch ok hs).mpr h1, h2⟩
    · rintro ⟨a, h1, rfl⟩
      have hcl : ClosedL links (reach links (2 * n) [place n s]) := by
        rcases reach_grow (ls := links) (2 * n) (K := [place n s]) (by simp) with q | q
        · exact q
        · have hb := nodup_len (reach_nodup (ls := links) (n := 2 * n) (K := [place n s]) (by simp)) (ys := (signsL n).map (place n)) fun z hz => by
            obtain ⟨a, h1, h2⟩ := hin z hz
            exact List.mem_map.mpr ⟨a, mem_signs.mpr (h1.inR ok hs), h2⟩
          rw [List.length_map, signs_len] at hb
          simp at q
          omega
      have hr := (mem_rch ok hs).mp h1
      clear h1
      induction hr with
      | refl => exact reach_sub _ _ (by simp)
      | step _ l ih => exact hcl (place n _, place n _) ((hlinks _ _).mpr ⟨_, _, l, rfl, rfl⟩) ih
  have hmul : opE mulI (kE (.int 2)) (vE 0) [.va (.int n), .va (eL rules), .va (.int s), .va (eL links), .va (li .int (spots n rules s)), .no, .no, .no, .no] = some (.int ((2 * n : Nat) : Int)) := op_ev rfl rfl ((mulI_ok' 2 (n : Int) (by decide)).trans (by congr))
  have hprod : 2 * n * links.length ≤ 20 * 40 := Nat.mul_le_mul (by omega) hlkl
  have hac := alive_cells_eq (n := 2 * n) (ls := links) (starts := [place n s]) (ys := spots n rules s) (by omega) (by simp) (by simp; omega) (by omega) (spots_asc ok hs) (by omega) hreach
  have t3 : callE F_alive_cells [(opE mulI (kE (.int 2)) (vE 0)), (vE 3), (tupE [(callE F__law_place [(vE 0), (vE 2)])])] [.va (.int n), .va (eL rules), .va (.int s), .va (eL links), .va (li .int (spots n rules s)), .no, .no, .no, .no] = some (eI (spots n rules s)) := by
    refine call3 hmul (y := eL links) (w := eI [place n s]) rfl ?_ hac
    rw [ev_tup, ev_args1, call2 (x := .int n) (y := .int s) rfl rfl (place_eq n s)]
    rfl
  have t4 : trT (callE F__law_is [(vE 5), (tupI (seqI (vE 4)))]) [.va (.int n), .va (eL rules), .va (.int s), .va (eL links), .va (li .int (spots n rules s)), .va (eI (spots n rules s)), .no, .no, .no] = some true := by
    rw [ev_tr, call2 (x := eI (spots n rules s)) (y := eI (spots n rules s)) rfl rfl (is_row _ (by omega))]
    rfl
  have hsq3 : seqI (callE F__law_signs [(vE 0)]) [.va (.int n), .va (eL rules), .va (.int s), .va (eL links), .va (li .int (spots n rules s)), .va (eI (spots n rules s)), .no, .no, .no] = some ((signsL n).map .int) := by
    rw [ev_seq, call1 (x := .int n) rfl (signs_eq n hn)]
    rfl
  have hsgl := signs_len n
  have c3 := comp_ev (e := PyData.int) (f := PyData.int) (own := [8]) (tg := .nm 8) (ts := trT (opE inD (callE F__law_place [(vE 0), (vE 8)]) (vE 5))) (el := vE 8) (fun o => decide (place n o ∈ spots n rules s)) id hsq3 (by omega) (fun o ho => ⟨_, rfl, by
    rw [ev_tr, op_ev (o := inD) (y := eI (spots n rules s)) (call2 (x := .int n) (y := .int o) rfl rfl (place_eq n o)) rfl (inD_ti _ _)]
    rfl, fun _ => rfl⟩)
  rw [List.map_id] at c3
  refine run_def (r0 := [.va (.int n), .va (eL rules), .va (.int s), .no, .no, .no, .no, .no, .no]) (z := .rt _) rfl rfl ((blk_nx (r1 := [.va (.int n), .va (eL rules), .va (.int s), .va (eL links), .no, .no, .no, .no, .no]) ?_).trans ((blk_nx (r1 := [.va (.int n), .va (eL rules), .va (.int s), .va (eL links), .va (li .int (spots n rules s)), .no, .no, .no, .no]) ?_).trans ((blk_nx (r1 := [.va (.int n), .va (eL rules), .va (.int s), .va (eL links), .va (li .int (spots n rules s)), .va (eI (spots n rules s)), .no, .no, .no]) ?_).trans ((blk_if ?_).trans (ret_ev (lst_ev c3))))))
  · rw [ev_sAsg, t1]
    rfl
  · rw [ev_sAsg, t2]
    rfl
  · rw [ev_sAsg, t3]
    rfl
  · rw [ev_not, t4]
    rfl
/-! ### rows -/
theorem law_has_eq {row : List Int} {s : Int} (h0 : s ≠ 0) (hs : s.natAbs ≤ row.length) : F__law_has [eI row, .int s] = some (.bool (hasS row s)) := holds_eq h0 hs
theorem has_ok {n : Nat} {row : List Int} (hr : row.length = n) {s : Int} (hs : inR n s) : F__law_has [eI row, .int s] = some (.bool (hasS row s)) := law_has_eq hs.1 (by have := hs.2; omega)
theorem impl_ev {n : Nat} {row : List Int} (hr : row.length = n) {a b : Int} (ha : inR n a) (hb : inR n b) {r : Dm.Env} {ea eb er er2 : E} (e1 : er r = some (eI row)) (e2 : ea r = some (.int a)) (e3 : eb r = some (.int b)) (e4 : er2 r = some (eI row)) : orE (notE (callE F__law_has [er, ea])) (callE F__law_has [er2, eb]) r = some (.bool (!hasS row a || hasS row b)) := by
  rw [ev_orE, ev_notE, call2 e1 e2 (has_ok hr ha), call2 e4 e3 (has_ok hr hb)]
  cases hasS row a <;> cases hasS row b <;> rfl
theorem law_every_eq {n : Nat} {rules : List Rule} (ok : Ok n rules) (hn : n ≤ 10) (hl : rules.length ≤ 20) : F__law_every [.int n, eL rules] = some (li (tu .int) (every n rules)) := by
  have hlen : ∀ k, k ≤ 10 → (allSw k).length ≤ 1024 := fun k hk => by
    rw [allSw_len]
    have : 2 ^ k ≤ 2 ^ 10 := Nat.pow_le_pow_right (by decide) hk
    omega
  have hr : rgI (kE (.int 0)) (vE 0) [.va (.int n), .va (eL rules), .va (li (tu .int) [[]]), .no, .no, .no, .no, .no] = some ((List.range n).map fun i : Nat => .int (i : Int)) := by
    rw [rg_ev (x := 0) (y := (n : Int)) rfl rfl (by omega) (by omega), rangeL_nat]
  obtain ⟨r', q, s3, s4, s5, rfl⟩ := forL_range (tg := .nm 3) (b := (blk [(sAsg (.nm 4) (lstE [])), (sFor (seqI (vE 2)) (.nm 5) (blk [(sAsg (.nm 4) (opE addD (vE 4) (lstE [(opE addD (vE 5) (tupE [(kE (.int 0))])), (opE addD (vE 5) (tupE [(kE (.int 1))]))])))])), (sAsg (.nm 2) (vE 4))])) (fun k r => ∃ s3 s4 s5, r = [.va (.int n), .va (eL rules), .va (li (tu .int) (allSw k)), s3, s4, s5, .no, .no]) n [.va (.int n), .va (eL rules), .va (li (tu .int) [[]]), .no, .no, .no, .no, .no] ⟨_, _, _, rfl⟩ (by
    rintro k r hk ⟨s3, s4, s5, rfl⟩
    have hk2 := hlen k (by omega)
    obtain ⟨r', q, s5', rfl⟩ := forL_all (e := tu PyData.int) (tg := .nm 5) (b := (blk [(sAsg (.nm 4) (opE addD (vE 4) (lstE [(opE addD (vE 5) (tupE [(kE (.int 0))])), (opE addD (vE 5) (tupE [(kE (.int 1))]))])))])) (fun done r => ∃ s5, r = [.va (.int n), .va (eL rules), .va (li (tu .int) (allSw k)), .va (.int k), .va (li (tu .int) (done.flatMap fun row => [row ++ [0], row ++ [1]])), s5, .no, .no]) (allSw k) [] [.va (.int n), .va (eL rules), .va (li (tu .int) (allSw k)), .va (.int k), .va (li (tu .int) []), s5, .no, .no] ⟨_, rfl⟩ (by
      rintro done row rest r hd ⟨s5, rfl⟩
      have hd' : allSw k = done ++ row :: rest := hd
      have hrow : row.length = k := ((allSw_mem k row).mp (by rw [hd']; simp)).1
      have hdl : done.length ≤ 1024 := by rw [hd', List.length_append] at hk2; omega
      have hfl : ∀ xs : List (List Int), (xs.flatMap fun row => [row ++ [0], row ++ [1]]).length = 2 * xs.length := fun xs => by
        induction xs with
        | nil => rfl
        | cons x xs ih =>
          rw [List.flatMap_cons, List.length_append, ih]
          simp
          omega
      refine ⟨_, _, rfl, .inl ((blk_nx (r1 := [.va (.int n), .va (eL rules), .va (li (tu .int) (allSw k)), .va (.int k), .va (li (tu .int) ((done ++ [row]).flatMap fun row => [row ++ [0], row ++ [1]])), .va (eI row), .no, .no]) ?_).trans rfl), _, rfl⟩
      show sAsg (.nm 4) _ [.va (.int n), .va (eL rules), .va (li (tu .int) (allSw k)), .va (.int k), .va (li (tu .int) (done.flatMap fun row => [row ++ [0], row ++ [1]])), .va (eI row), .no, .no] = _
      have a1 := add_one (e := PyData.int) row 0 (by omega)
      have a2 := add_one (e := PyData.int) row 1 (by omega)
      have hls : lstE [(opE addD (vE 5) (tupE [(kE (.int 0))])), (opE addD (vE 5) (tupE [(kE (.int 1))]))] [.va (.int n), .va (eL rules), .va (li (tu .int) (allSw k)), .va (.int k), .va (li (tu .int) (done.flatMap fun row => [row ++ [0], row ++ [1]])), .va (eI row), .no, .no] = some (li (tu .int) [row ++ [0], row ++ [1]]) := by
        rw [ev_lst, ev_args1, op_ev (x := eI row) rfl rfl a1, ev_args1, op_ev (x := eI row) rfl rfl a2]
        rfl
      rw [ev_sAsg, op_ev (x := li (tu .int) (done.flatMap fun row => [row ++ [0], row ++ [1]])) rfl hls (addD_li _ _ (by rw [hfl]; simp; omega)), List.flatMap_append]
      rfl)
    refine ⟨_, _, rfl, .inl ((blk_nx (r1 := [.va (.int n), .va (eL rules), .va (li (tu .int) (allSw k)), .va (.int k), .va (li (tu .int) []), s5, .no, .no]) rfl).trans ((blk_nx ((for_ev rfl).trans q)).trans ((blk_nx (r1 := [.va (.int n), .va (eL rules), .va (li (tu .int) (allSw (k + 1))), .va (.int k), .va (li (tu .int) (allSw (k + 1))), s5', .no, .no]) rfl).trans rfl))), _, _, _, rfl⟩)
  have c := comp_ev (e := tu PyData.int) (f := tu PyData.int) (own := [5]) (it := seqI (vE 2)) (tg := .nm 5) (ts := trT (unE allLD (lstI (compI [6, 7] (seqI (vE 1)) (.tp [(.nm 6), (.nm 7)]) noT (orE (notE (callE F__law_has [(vE 5), (vE 6)])) (callE F__law_has [(vE 5), (vE 7)])))))) (el := vE 5) (r := [.va (.int n), .va (eL rules), .va (li (tu .int) (allSw n)), s3, s4, s5, .no, .no]) (xs := allSw n) (sat rules) id rfl (by have := hlen n hn; omega) (fun row hrow => by
    have hrl := ((allSw_mem n row).mp hrow).1
    refine ⟨[.va (.int n), .va (eL rules), .va (li (tu .int) (allSw n)), s3, s4, .va (eI row), .no, .no], rfl, ?_, fun _ => rfl⟩
    have c2 := comp_ev_all (e := pr PyData.int PyData.int) (f := PyData.bool) (own := [6, 7]) (it := seqI (vE 1)) (tg := .tp [(.nm 6), (.nm 7)]) (ts := noT) (el := orE (notE (callE F__law_has [(vE 5), (vE 6)])) (callE F__law_has [(vE 5), (vE 7)])) (r := [.va (.int n), .va (eL rules), .va (li (tu .int) (allSw n)), s3, s4, .va (eI row), .no, .no]) (xs := rules) (fun p => !hasS row p.1 || hasS row p.2) rfl (by omega) (fun p hp => ⟨_, ev_pr _ _ _ _ _ _, rfl, impl_ev hrl (ok.a p hp) (ok.b p hp) rfl rfl rfl rfl⟩)
    rw [ev_tr, ev_un, lst_ev c2, Option.bind_some, allLD_bools]
    unfold sat
    simp)
  rw [List.map_id] at c
  exact run_def (r0 := [.va (.int n), .va (eL rules), .no, .no, .no, .no, .no, .no]) (z := .rt _) rfl rfl ((blk_nx (r1 := [.va (.int n), .va (eL rules), .va (li (tu .int) [[]]), .no, .no, .no, .no, .no]) rfl).trans ((blk_nx ((for_ev hr).trans q)).trans (ret_ev (lst_ev c))))
def ver (s : Int) : Int := if s > 0 then 0 else 1
theorem version_eq (s : Int) : F__law_version [.int s] = some (.int (ver s)) := by
  refine run_def (r0 := [.va (.int s)]) (z := .rt _) rfl rfl (ret_ev ?_)
  unfold ver
  by_cases h : s > 0 <;> simp [h]
end Dm.M
end

section
set_option Elab.async false
set_option linter.all false
set_option maxRecDepth 100000
set_option maxHeartbeats 1000000
set_option autoImplicit true
/-! K94I: the law's parcels and wishes. -/
namespace Dm.M
open PySem PySem.W
def dueL (rules : List Rule) (at' : Nat) (sign : Int) (other : Nat) : List Int := ((leadsL rules).filter fun p => decide (p.1 = sign) && (decide ((p.2.natAbs : Int) = (other : Int) + 1) && !decide ((other : Int) = (at' : Int)))).map fun p => ver p.2
def needOf (rules : List Rule) (at' : Nat) (sign : Int) (other : Nat) : List Need := if (dueL rules at' sign other).length > 0 then [((other : Int), if (dedupI (dueL rules at' sign other)).length = 1 then [(dueL rules at' sign other).getD 0 0] else [5])] else []
def needsL (n : Nat) (rules : List Rule) (at' : Nat) (sign : Int) : List Need := (List.range n).flatMap (needOf rules at' sign)
def pcl (n : Nat) (rules : List Rule) : List (List (List Need)) := (List.range n).map fun at' => [needsL n rules at' ((at' : Int) + 1), needsL n rules at' (0 - (at' : Int) - 1)]
def B_p1 : S := blk [(sAsg (.nm 8) (lstI (compI [9, 10] (seqI (callE F__law_leads [(vE 1)])) (.tp [(.nm 9), (.nm 10)]) (andT (trT (opE eqD (vE 9) (vE 5))) (andT (trT (opE eqD (unE absD (vE 10)) (opE addD (vE 7) (kE (.int 1))))) (trT (opE neD (vE 7) (vE 3))))) (callE F__law_version [(vE 10)])))), (sIf (trT (opE gtD (unE lenD (vE 8)) (kE (.int 0)))) (blk [(sAsg (.nm 6) (opE addD (vE 6) (tupE [(tupE [(vE 7), (ifE (trT (opE eqD (unE lenSetD (vE 8)) (kE (.int 1)))) (tupE [(opE ixD (vE 8) (kE (.int 0)))]) (tupE [(kE (.int 5))]))])])))]) (blk []))]
theorem lenSetD_ints (ns : List Int) (h : ns.length < 4000) : lenSetD (li .int ns) = some (.int ((dedupI ns).length : Int)) := by
  unfold lenSetD li
  simp only [intsOf_map, decide_eq_true h, if_true]
theorem p1_ev {rules : List Rule} (hl : rules.length ≤ 20) (at' other : Nat) (sign : Int) (nd : List Need) (hn : nd.length ≤ 1000) (s0 s2 s4 s8 : Slot) :
    ∃ s8', B_p1 [s0, .va (eL rules), s2, .va (.int at'), s4, .va (.int sign), .va (eNs nd), .va (.int other), s8, .no, .no] = some (.nx [s0, .va (eL rules), s2, .va (.int at'), s4, .va (.int sign), .va (eNs (nd ++ needOf rules at' sign other)), .va (.int other), s8', .no, .no]) := by
  have hll := leads_len rules
  have hsq : seqI (callE F__law_leads [(vE 1)]) [s0, .va (eL rules), s2, .va (.int at'), s4, .va (.int sign), .va (eNs nd), .va (.int other), s8, .no, .no] = some ((leadsL rules).map (pr .int .int)) := by
    rw [ev_seq, call1 (x := eL rules) rfl (leads_eq rules hl)]
    rfl
  have c := comp_ev (e := pr PyData.int PyData.int) (f := PyData.int) (own := [9, 10]) (tg := .tp [(.nm 9), (.nm 10)]) (ts := andT (trT (opE eqD (vE 9) (vE 5))) (andT (trT (opE eqD (unE absD (vE 10)) (opE addD (vE 7) (kE (.int 1))))) (trT (opE neD (vE 7) (vE 3))))) (el := callE F__law_version [(vE 10)]) (fun p : Int × Int => decide (p.1 = sign) && (decide ((p.2.natAbs : Int) = (other : Int) + 1) && !decide ((other : Int) = (at' : Int)))) (fun p => ver p.2) hsq (by omega) (fun p hp => ⟨_, ev_pr _ _ _ _ _ _, by
    by_cases h1 : p.1 = sign
    · by_cases h2 : (p.2.natAbs : Int) = (other : Int) + 1
      · simp [h1, absD_int, h2]
      · simp [h1, absD_int, h2]
    · simp [h1], fun _ => call1 (x := .int p.2) rfl (version_eq p.2)⟩)
  have hdl : (dueL rules at' sign other).length ≤ 40 := by
    unfold dueL
    rw [List.length_map]
    refine Nat.le_trans (List.length_filter_le _ _) (by omega)
  refine ⟨.va (li .int (dueL rules at' sign other)), (blk_nx (r1 := [s0, .va (eL rules), s2, .va (.int at'), s4, .va (.int sign), .va (eNs nd), .va (.int other), .va (li .int (dueL rules at' sign other)), .no, .no]) (by rw [ev_sAsg, lst_ev c]; rfl)).trans ?_⟩
  unfold needOf
  generalize dueL rules at' sign other = due at *
  by_cases h : due.length > 0
  · rw [if_pos h]
    have h' : (due.length : Int) > 0 := by omega
    obtain ⟨x, hx⟩ : ∃ x, due[0]? = some x := ⟨_, List.getElem?_eq_getElem h⟩
    have hxd : due.getD 0 0 = x := by simp [List.getD, hx]
    have hif : ifE (trT (opE eqD (unE lenSetD (vE 8)) (kE (.int 1)))) (tupE [(opE ixD (vE 8) (kE (.int 0)))]) (tupE [(kE (.int 5))]) [s0, .va (eL rules), s2, .va (.int at'), s4, .va (.int sign), .va (eNs nd), .va (.int other), .va (li .int due), .no, .no] = some (eI (if (dedupI due).length = 1 then [x] else [5])) := by
      have ht : trT (opE eqD (unE lenSetD (vE 8)) (kE (.int 1))) [s0, .va (eL rules), s2, .va (.int at'), s4, .va (.int sign), .va (eNs nd), .va (.int other), .va (li .int due), .no, .no] = some (decide ((dedupI due).length = 1)) := by
        rw [ev_tr, op_ev (x := .int ((dedupI due).length : Int)) (by rw [ev_un]; exact lenSetD_ints due (by omega)) rfl (eqD_int _ _), Option.bind_some, truD_bool]
        congr 1
        exact decide_eq_decide.mpr (by omega)
      rw [ev_if, ht]
      by_cases h1 : (dedupI due).length = 1
      · simp [h1, hx, tu]
      · simp [h1, tu]
    refine (blk_nx ((if_t ?_).trans ((blk_nx (r1 := [s0, .va (eL rules), s2, .va (.int at'), s4, .va (.int sign), .va (eNs (nd ++ [((other : Int), if (dedupI due).length = 1 then [due.getD 0 0] else [5])])), .va (.int other), .va (li .int due), .no, .no]) ?_).trans rfl))).trans rfl
    · rw [ev_tr, op_ev (x := .int (due.length : Int)) (by simp) rfl (gtD_int _ _)]
      simp only [h', decide_true, Option.bind_some, truD_bool]
    · rw [ev_sAsg, op_ev (x := eNs nd) (y := .tuple [eN ((other : Int), if (dedupI due).length = 1 then [x] else [5])]) rfl ?_ (add_one (e := eN) nd _ (by omega)), hxd]
      · rfl
      · rw [ev_tup, ev_args1, ev_tup, ev_args1, ev_args1, hif]
        rfl
  · rw [if_neg h, List.append_nil]
    have h' : ¬ (due.length : Int) > 0 := by omega
    refine (blk_if ?_).trans rfl
    rw [ev_tr, op_ev (x := .int (due.length : Int)) (by simp) rfl (gtD_int _ _)]
    simp only [h', decide_false, Option.bind_some, truD_bool]
theorem needOf_len (rules : List Rule) (at' other : Nat) (sign : Int) : (needOf rules at' sign other).length ≤ 1 := by
  unfold needOf
  split <;> simp
theorem needs_flat_len (rules : List Rule) (at' : Nat) (sign : Int) : ∀ xs : List Nat, (xs.flatMap (needOf rules at' sign)).length ≤ xs.length
  | [] => by simp
  | x :: xs => by
    have h1 := needs_flat_len rules at' sign xs
    have h2 := needOf_len rules at' x sign
    rw [List.flatMap_cons, List.length_append, List.length_cons]
    omega
def B_p2 : S := blk [(sAsg (.nm 6) (tupE [])), (sFor (rgI (kE (.int 0)) (vE 0)) (.nm 7) B_p1), (sAsg (.nm 4) (opE addD (vE 4) (tupE [(vE 6)])))]
theorem p2_ev {n : Nat} (hn : n ≤ 10) {rules : List Rule} (hl : rules.length ≤ 20) (at' : Nat) (sign : Int) (vs : List (List Need)) (hv : vs.length ≤ 10) (s2 s6 s7 s8 : Slot) :
    ∃ s6' s7' s8', B_p2 [.va (.int n), .va (eL rules), s2, .va (.int at'), .va (tu (tu eN) vs), .va (.int sign), s6, s7, s8, .no, .no] = some (.nx [.va (.int n), .va (eL rules), s2, .va (.int at'), .va (tu (tu eN) (vs ++ [needsL n rules at' sign])), .va (.int sign), s6', s7', s8', .no, .no]) := by
  have hr : rgI (kE (.int 0)) (vE 0) [.va (.int n), .va (eL rules), s2, .va (.int at'), .va (tu (tu eN) vs), .va (.int sign), .va (eNs []), s7, s8, .no, .no] = some ((List.range n).map fun i : Nat => .int (i : Int)) := by
    rw [rg_ev (x := 0) (y := (n : Int)) rfl rfl (by omega) (by omega), rangeL_nat]
  obtain ⟨r', q, s7', s8', rfl⟩ := forL_all (e := fun i : Nat => PyData.int (i : Int)) (tg := .nm 7) (b := B_p1) (fun done r => ∃ s7' s8', r = [.va (.int n), .va (eL rules), s2, .va (.int at'), .va (tu (tu eN) vs), .va (.int sign), .va (eNs (done.flatMap (needOf rules at' sign))), s7', s8', .no, .no]) (List.range n) [] [.va (.int n), .va (eL rules), s2, .va (.int at'), .va (tu (tu eN) vs), .va (.int sign), .va (eNs []), s7, s8, .no, .no] ⟨_, _, rfl⟩ (by
    rintro done x rest r hd ⟨s7', s8', rfl⟩
    have hdl : done.length ≤ n := by
      have := congrArg List.length hd
      simp at this
      omega
    have hfl := needs_flat_len rules at' sign done
    obtain ⟨t8, e⟩ := p1_ev hl at' x sign (done.flatMap (needOf rules at' sign)) (by omega) (.va (.int n)) s2 (.va (tu (tu eN) vs)) s8'
    refine ⟨_, _, rfl, .inl e, .va (.int x), t8, ?_⟩
    rw [List.flatMap_append]
    simp)
  refine ⟨.va (eNs (needsL n rules at' sign)), s7', s8', (blk_nx (r1 := [.va (.int n), .va (eL rules), s2, .va (.int at'), .va (tu (tu eN) vs), .va (.int sign), .va (eNs []), s7, s8, .no, .no]) rfl).trans ((blk_nx ((for_ev hr).trans q)).trans ((blk_nx ?_).trans rfl))⟩
  show sAsg (.nm 4) _ [.va (.int n), .va (eL rules), s2, .va (.int at'), .va (tu (tu eN) vs), .va (.int sign), .va (eNs (needsL n rules at' sign)), s7', s8', .no, .no] = _
  rw [ev_sAsg, op_ev (x := tu (tu eN) vs) (y := .tuple [eNs (needsL n rules at' sign)]) rfl rfl (add_one (e := tu eN) vs _ (by omega))]
  rfl
theorem law_parcels_eq (n : Nat) (hn : n ≤ 10) (rules : List Rule) (hl : rules.length ≤ 20) : F__law_parcels [.int n, eL rules] = some (eP (pcl n rules)) := by
  have hr : rgI (kE (.int 0)) (vE 0) [.va (.int n), .va (eL rules), .va (eP []), .no, .no, .no, .no, .no, .no, .no, .no] = some ((List.range n).map fun i : Nat => .int (i : Int)) := by
    rw [rg_ev (x := 0) (y := (n : Int)) rfl rfl (by omega) (by omega), rangeL_nat]
  obtain ⟨r', q, s3, s4, s5, s6, s7, s8, rfl⟩ := forL_range (tg := .nm 3) (b := blk [(sAsg (.nm 4) (tupE [])), (sFor (seqI (tupE [(opE addD (vE 3) (kE (.int 1))), (opE subD (opE subD (kE (.int 0)) (vE 3)) (kE (.int 1)))])) (.nm 5) B_p2), (sAsg (.nm 2) (opE addD (vE 2) (tupE [(vE 4)])))])
      (fun k r => ∃ s3 s4 s5 s6 s7 s8, r = [.va (.int n), .va (eL rules), .va (eP ((List.range k).map fun at' => [needsL n rules at' ((at' : Int) + 1), needsL n rules at' (0 - (at' : Int) - 1)])), s3, s4, s5, s6, s7, s8, .no, .no]) n [.va (.int n), .va (eL rules), .va (eP []), .no, .no, .no, .no, .no, .no, .no, .no] ⟨_, _, _, _, _, _, rfl⟩ (by
    rintro k r hk ⟨s3, s4, s5, s6, s7, s8, rfl⟩
    obtain ⟨t6, t7, t8, e1⟩ := p2_ev hn hl k ((k : Int) + 1) [] (by simp) (.va (eP ((List.range k).map fun at' => [needsL n rules at' ((at' : Int) + 1), needsL n rules at' (0 - (at' : Int) - 1)]))) s6 s7 s8
    obtain ⟨u6, u7, u8, e2⟩ := p2_ev hn hl k (0 - (k : Int) - 1) [needsL n rules k ((k : Int) + 1)] (by simp) (.va (eP ((List.range k).map fun at' => [needsL n rules at' ((at' : Int) + 1), needsL n rules at' (0 - (at' : Int) - 1)]))) t6 t7 t8
    refine ⟨_, _, rfl, .inl ((blk_nx (r1 := [.va (.int n), .va (eL rules), .va (eP ((List.range k).map fun at' => [needsL n rules at' ((at' : Int) + 1), needsL n rules at' (0 - (at' : Int) - 1)])), .va (.int k), .va (tu (tu eN) []), s5, s6, s7, s8, .no, .no]) rfl).trans ((blk_nx ((for_ev (xs := [.int ((k : Int) + 1), .int (0 - (k : Int) - 1)]) rfl).trans ((forL_nx rfl e1).trans ((forL_nx rfl e2).trans (forL_nil _))))).trans ((blk_nx (r1 := [.va (.int n), .va (eL rules), .va (eP ((List.range (k + 1)).map fun at' => [needsL n rules at' ((at' : Int) + 1), needsL n rules at' (0 - (at' : Int) - 1)])), .va (.int k), .va (tu (tu eN) [needsL n rules k ((k : Int) + 1), needsL n rules k (0 - (k : Int) - 1)]), .va (.int (0 - (k : Int) - 1)), u6, u7, u8, .no, .no]) ?_).trans rfl))), _, _, _, _, _, _, rfl⟩
    show sAsg (.nm 2) _ [.va (.int n), .va (eL rules), .va (eP ((List.range k).map fun at' => [needsL n rules at' ((at' : Int) + 1), needsL n rules at' (0 - (at' : Int) - 1)])), .va (.int k), .va (tu (tu eN) [needsL n rules k ((k : Int) + 1), needsL n rules k (0 - (k : Int) - 1)]), .va (.int (0 - (k : Int) - 1)), u6, u7, u8, .no, .no] = _
    rw [ev_sAsg, op_ev (x := eP ((List.range k).map fun at' => [needsL n rules at' ((at' : Int) + 1), needsL n rules at' (0 - (at' : Int) - 1)])) (y := .tuple [tu (tu eN) [needsL n rules k ((k : Int) + 1), needsL n rules k (0 - (k : Int) - 1)]]) rfl rfl (add_one (e := tu (tu eN)) _ _ (by simp; omega)), List.range_succ, List.map_append]
    rfl)
  exact run_def (r0 := [.va (.int n), .va (eL rules), .no, .no, .no, .no, .no, .no, .no, .no, .no]) (z := .rt _) rfl rfl ((blk_nx (r1 := [.va (.int n), .va (eL rules), .va (eP []), .no, .no, .no, .no, .no, .no, .no, .no]) rfl).trans ((blk_nx ((for_ev hr).trans q)).trans (ret_ev rfl)))
/-! ### wishes -/
def fitT (rules : List Rule) (signs : List Int) (s : Int) : Bool := !decide ((s, 0 - s) ∈ leadsL rules) && !decide (0 - s ∈ signs)
def fitW (rules : List Rule) (signs : List Int) (at' : Nat) : List Int := ([(at' : Int) + 1, 0 - (at' : Int) - 1].filter (fitT rules signs)).map ver
def wsh (rules : List Rule) (signs : List Int) (at' : Nat) : Need := ((at' : Int), if (fitW rules signs at').length > 0 then fitW rules signs at' else [5])
def wishesL (n : Nat) (rules : List Rule) (signs : List Int) : List Need := (List.range n).map (wsh rules signs)
def B_w1 : S := blk [(sIf (andT (trT (opE ninD (tupE [(vE 6), (opE subD (kE (.int 0)) (vE 6))]) (callE F__law_leads [(vE 1)]))) (trT (opE ninD (opE subD (kE (.int 0)) (vE 6)) (vE 2)))) (blk [(sApp 5 (callE F__law_version [(vE 6)]))]) (blk []))]
theorem w1_ev {rules : List Rule} (hl : rules.length ≤ 20) (signs : List Int) (s : Int) (acc : List Int) (ha : acc.length ≤ 10) (s0 s3 s4 : Slot) : B_w1 [s0, .va (eL rules), .va (eI signs), s3, s4, .ow (li .int acc), .va (.int s)] = some (.nx [s0, .va (eL rules), .va (eI signs), s3, s4, .ow (li .int (acc ++ if fitT rules signs s then [ver s] else [])), .va (.int s)]) := by
  have hsub : opE subD (kE (.int 0)) (vE 6) [s0, .va (eL rules), .va (eI signs), s3, s4, .ow (li .int acc), .va (.int s)] = some (.int (0 - s)) := op_ev rfl rfl rfl
  have t1 : opE ninD (tupE [(vE 6), (opE subD (kE (.int 0)) (vE 6))]) (callE F__law_leads [(vE 1)]) [s0, .va (eL rules), .va (eI signs), s3, s4, .ow (li .int acc), .va (.int s)] = some (.bool (!decide ((s, 0 - s) ∈ leadsL rules))) :=
    op_ev (x := pr .int .int (s, 0 - s)) (by rw [ev_tup, ev_args1, ev_args1, hsub]; rfl) (call1 (x := eL rules) rfl (leads_eq rules hl)) ((ninD_li (e := pr PyData.int PyData.int) (s, 0 - s) (leadsL rules)).trans (by congr))
  have t2 : opE ninD (opE subD (kE (.int 0)) (vE 6)) (vE 2) [s0, .va (eL rules), .va (eI signs), s3, s4, .ow (li .int acc), .va (.int s)] = some (.bool (!decide (0 - s ∈ signs))) := op_ev (y := eI signs) hsub rfl (ninD_ti _ _)
  have t3 : andT (trT (opE ninD (tupE [(vE 6), (opE subD (kE (.int 0)) (vE 6))]) (callE F__law_leads [(vE 1)]))) (trT (opE ninD (opE subD (kE (.int 0)) (vE 6)) (vE 2))) [s0, .va (eL rules), .va (eI signs), s3, s4, .ow (li .int acc), .va (.int s)] = some (fitT rules signs s) := by
    rw [ev_and, ev_tr, t1, ev_tr, t2]
    unfold fitT
    by_cases h : (s, 0 - s) ∈ leadsL rules
    · simp only [h, decide_true, Option.bind_some, truD_bool, Bool.not_true, Bool.false_eq_true, if_false, Bool.false_and]
    · simp only [h, decide_false, Option.bind_some, truD_bool, Bool.not_false, if_true, Bool.true_and]
  cases hf : fitT rules signs s with
  | false =>
    rw [hf] at t3
    refine (blk_if t3).trans ?_
    simp
  | true =>
    rw [hf] at t3
    have hok : lenOk (acc.length + 1) = true := lenOk_small (by omega)
    refine (blk_nx ((if_t t3).trans ((blk_nx (r1 := [s0, .va (eL rules), .va (eI signs), s3, s4, .ow (li .int (acc ++ [ver s])), .va (.int s)]) ?_).trans rfl))).trans rfl
    rw [ev_sApp, call1 (x := .int s) rfl (version_eq s)]
    simp [li, hok]
theorem law_wishes_eq (n : Nat) (hn : n ≤ 10) (rules : List Rule) (hl : rules.length ≤ 20) (signs : List Int) : F__law_wishes [.int n, eL rules, eI signs] = some (eNs (wishesL n rules signs)) := by
  have hr : rgI (kE (.int 0)) (vE 0) [.va (.int n), .va (eL rules), .va (eI signs), .va (eNs []), .no, .no, .no] = some ((List.range n).map fun i : Nat => .int (i : Int)) := by
    rw [rg_ev (x := 0) (y := (n : Int)) rfl rfl (by omega) (by omega), rangeL_nat]
  obtain ⟨r', q, s4, s5, s6, rfl⟩ := forL_range (tg := .nm 4) (b := blk [(sOwn 5 (lstE [])), (sFor (seqI (tupE [(opE addD (vE 4) (kE (.int 1))), (opE subD (opE subD (kE (.int 0)) (vE 4)) (kE (.int 1)))])) (.nm 6) B_w1), (sAsg (.nm 3) (opE addD (vE 3) (tupE [(tupE [(vE 4), (ifE (trT (opE gtD (unE lenD (bE 5)) (kE (.int 0)))) (tupI (seqI (bE 5))) (tupE [(kE (.int 5))]))])])))])
      (fun k r => ∃ s4 s5 s6, r = [.va (.int n), .va (eL rules), .va (eI signs), .va (eNs ((List.range k).map (wsh rules signs))), s4, s5, s6]) n [.va (.int n), .va (eL rules), .va (eI signs), .va (eNs []), .no, .no, .no] ⟨_, _, _, rfl⟩ (by
    rintro k r hk ⟨s4, s5, s6, rfl⟩
    have e1 := w1_ev hl signs ((k : Int) + 1) [] (by simp) (.va (.int n)) (.va (eNs ((List.range k).map (wsh rules signs)))) (.va (.int k))
    have e2 := w1_ev hl signs (0 - (k : Int) - 1) ([] ++ if fitT rules signs ((k : Int) + 1) then [ver ((k : Int) + 1)] else []) (by split <;> simp) (.va (.int n)) (.va (eNs ((List.range k).map (wsh rules signs)))) (.va (.int k))
    have ef : ([] ++ (if fitT rules signs ((k : Int) + 1) then [ver ((k : Int) + 1)] else [])) ++ (if fitT rules signs (0 - (k : Int) - 1) then [ver (0 - (k : Int) - 1)] else []) = fitW rules signs k := by
      unfold fitW
      rw [List.filter_cons, List.filter_cons, List.filter_nil]
      cases fitT rules signs ((k : Int) + 1) <;> cases fitT rules signs (0 - (k : Int) - 1) <;> rfl
    rw [ef] at e2
    refine ⟨_, _, rfl, .inl ((blk_nx (r1 := [.va (.int n), .va (eL rules), .va (eI signs), .va (eNs ((List.range k).map (wsh rules signs))), .va (.int k), .ow (li .int []), s6]) rfl).trans ((blk_nx ((for_ev (xs := [.int ((k : Int) + 1), .int (0 - (k : Int) - 1)]) rfl).trans ((forL_nx rfl e1).trans ((forL_nx rfl e2).trans (forL_nil _))))).trans ((blk_nx (r1 := [.va (.int n), .va (eL rules), .va (eI signs), .va (eNs ((List.range (k + 1)).map (wsh rules signs))), .va (.int k), .ow (li .int (fitW rules signs k)), .va (.int (0 - (k : Int) - 1))]) ?_).trans rfl))), _, _, _, rfl⟩
    have hif : ifE (trT (opE gtD (unE lenD (bE 5)) (kE (.int 0)))) (tupI (seqI (bE 5))) (tupE [(kE (.int 5))]) [.va (.int n), .va (eL rules), .va (eI signs), .va (eNs ((List.range k).map (wsh rules signs))), .va (.int k), .ow (li .int (fitW rules signs k)), .va (.int (0 - (k : Int) - 1))] = some (eI (if (fitW rules signs k).length > 0 then fitW rules signs k else [5])) := by
      have ht : trT (opE gtD (unE lenD (bE 5)) (kE (.int 0))) [.va (.int n), .va (eL rules), .va (eI signs), .va (eNs ((List.range k).map (wsh rules signs))), .va (.int k), .ow (li .int (fitW rules signs k)), .va (.int (0 - (k : Int) - 1))] = some (decide ((fitW rules signs k).length > 0)) := by
        rw [ev_tr, op_ev (x := .int ((fitW rules signs k).length : Int)) (by simp) rfl (gtD_int _ _), Option.bind_some, truD_bool]
        exact congrArg some (decide_eq_decide.mpr (by omega))
      rw [ev_if, ht]
      by_cases h : (fitW rules signs k).length > 0
      · simp only [h, decide_true, Option.bind_some, if_true]
        rfl
      · simp only [h, decide_false, Option.bind_some, if_false, Bool.false_eq_true]
        rfl
    show sAsg (.nm 3) _ [.va (.int n), .va (eL rules), .va (eI signs), .va (eNs ((List.range k).map (wsh rules signs))), .va (.int k), .ow (li .int (fitW rules signs k)), .va (.int (0 - (k : Int) - 1))] = _
    rw [ev_sAsg, op_ev (x := eNs ((List.range k).map (wsh rules signs))) (y := .tuple [eN (wsh rules signs k)]) rfl ?_ (add_one (e := eN) _ _ (by simp; omega)), List.range_succ, List.map_append]
    · rfl
    · rw [ev_tup, ev_args1, ev_tup, ev_args1, ev_args1, hif]
      rfl)
  exact run_def (r0 := [.va (.int n), .va (eL rules), .va (eI signs), .no, .no, .no, .no]) (z := .rt _) rfl rfl ((blk_nx (r1 := [.va (.int n), .va (eL rules), .va (eI signs), .va (eNs []), .no, .no, .no]) rfl).trans ((blk_nx ((for_ev hr).trans q)).trans (ret_ev rfl)))
end Dm.M
end

section
set_option Elab.async false
set_option linter.all false
set_option maxRecDepth 100000
set_option maxHeartbeats 1000000
set_option autoImplicit true
/-! K94J: the choices of the parcels are the rows that obey, turned. -/
namespace Dm.M
open PySem PySem.W
def flip1 (row : List Int) : List Int := row.map fun x => 1 - x
theorem allSw_cons : ∀ n, allSw (n + 1) = [0, 1].flatMap fun x : Int => (allSw n).map (x :: ·)
  | 0 => rfl
  | n + 1 => by
    have e1 : allSw (n + 1 + 1) = ([0, 1].flatMap fun x : Int => (allSw n).map (x :: ·)).flatMap fun row => [row ++ [0], row ++ [1]] := by
      rw [← allSw_cons n]
      rfl
    have e2 : ∀ x : Int, ((allSw n).map (x :: ·)).flatMap (fun row => [row ++ [0], row ++ [1]]) = (allSw (n + 1)).map (x :: ·) := fun x => by
      show _ = ((allSw n).flatMap fun row => [row ++ [0], row ++ [1]]).map (x :: ·)
      rw [List.map_flatMap, List.flatMap_map]
      rfl
    rw [e1, List.flatMap_assoc]
    congr 1
    funext x
    exact e2 x
theorem down_two : down 2 = [1, 0, -1] := rfl
theorem prod_two : ∀ n, (prodN (List.replicate n [0, 0])).filter (fun ns => ns.all fun x => decide (x = 0) || decide (x = 1)) = (allSw n).map flip1
  | 0 => rfl
  | n + 1 => by
    have ih := prod_two n
    rw [List.replicate_succ, prodN, allSw_cons]
    have e2 : ([0, 0] : List Nat).length = 2 := rfl
    rw [e2, down_two]
    have step : ∀ x : Int, (x = 0 ∨ x = 1) → ((prodN (List.replicate n [0, 0])).map (x :: ·)).filter (fun ns => ns.all fun x => decide (x = 0) || decide (x = 1)) = ((allSw n).map flip1).map (x :: ·) := fun x hx => by
      rw [List.filter_map, ← ih]
      congr 2
      funext ns
      rcases hx with rfl | rfl <;> simp
    have stepn : ((prodN (List.replicate n [0, 0])).map ((-1 : Int) :: ·)).filter (fun ns => ns.all fun x => decide (x = 0) || decide (x = 1)) = [] := by
      rw [List.filter_eq_nil_iff]
      intro ns hns
      obtain ⟨t, _, rfl⟩ := List.mem_map.mp hns
      simp
    simp only [List.flatMap_cons, List.flatMap_nil, List.append_nil, List.filter_append, List.map_append]
    rw [step 1 (.inr rfl), step 0 (.inl rfl), stepn, List.append_nil]
    simp only [List.map_map]
    congr 1
theorem pcl_len (n : Nat) (rules : List Rule) : (pcl n rules).length = n := by simp [pcl]
theorem prod_pcl (n : Nat) (rules : List Rule) : prodN (pcl n rules) = prodN (List.replicate n [0, 0]) := prodN_congr _ _ (by
  apply List.ext_getElem
  · simp [pcl]
  · intro i h1 h2
    simp [pcl])
theorem isChoice_iff {ps : List (List (List Need))} {ws : List Need} {ns : List Int} : isChoice ps ws ns = true ↔ ns.length = ps.length ∧ (∀ t, t < ps.length → -1 ≤ ns.getD t 0 ∧ ns.getD t 0 < (ps.getD t []).length) ∧ (∀ p ∈ ws, ns.getD p.1.toNat 0 ∈ p.2) ∧ ∀ t, t < ps.length → ns.getD t 0 = -1 ∨ ∀ p ∈ (ps.getD t []).getD (ns.getD t 0).toNat [], ns.getD p.1.toNat 0 ∈ p.2 := by
  unfold isChoice areMet
  simp only [Bool.and_eq_true, decide_eq_true_eq, List.all_eq_true]
  constructor
  · rintro ⟨⟨⟨h1, h2⟩, h3⟩, h4⟩
    refine ⟨h1, fun t ht => ?_, h3, fun t ht => ?_⟩
    · have := (zip_all (fun p : Int × List (List Need) => decide (-1 ≤ p.1) && decide (p.1 < p.2.length)) 0 [] ns ps h1).mp (List.all_eq_true.mpr fun p hp => by simpa using h2 p hp) t ht
      simpa using this
    · have := (zip_all (fun p : Int × List (List Need) => decide (p.1 = -1) || (p.2.getD p.1.toNat []).all fun p => decide (ns.getD p.1.toNat 0 ∈ p.2)) 0 [] ns ps h1).mp (List.all_eq_true.mpr fun p hp => by simpa using h4 p hp) t ht
      simpa using this
  · rintro ⟨h1, h2, h3, h4⟩
    refine ⟨⟨⟨h1, fun p hp => ?_⟩, h3⟩, fun p hp => ?_⟩
    · have := List.all_eq_true.mp ((zip_all (fun p : Int × List (List Need) => decide (-1 ≤ p.1) && decide (p.1 < p.2.length)) 0 [] ns ps h1).mpr fun t ht => by simpa using h2 t ht) p hp
      simpa using this
    · have := List.all_eq_true.mp ((zip_all (fun p : Int × List (List Need) => decide (p.1 = -1) || (p.2.getD p.1.toNat []).all fun p => decide (ns.getD p.1.toNat 0 ∈ p.2)) 0 [] ns ps h1).mpr fun t ht => by simpa using h4 t ht) p hp
      simpa using this
/-- the sign that a row has at a flag -/
def sg (row : List Int) (t : Nat) : Int := if row.getD t 0 = 1 then (t : Int) + 1 else 0 - (t : Int) - 1
theorem sg_inR {n : Nat} (row : List Int) {t : Nat} (ht : t < n) : inR n (sg row t) := by
  unfold sg inR
  split <;> omega
theorem sg_has {n : Nat} {row : List Int} (hr : row ∈ allSw n) {t : Nat} (ht : t < n) : hasS row (sg row t) = true := by
  obtain ⟨h1, h2⟩ := (allSw_mem n row).mp hr
  have hm : row.getD t 0 ∈ row := by simp [List.getD, List.getElem?_eq_getElem (show t < row.length by omega)]
  unfold hasS sg
  rcases h2 _ hm with q | q
  · have hne : ¬ row.getD t 0 = 1 := by omega
    rw [if_neg hne]
    have e : (0 - (t : Int) - 1).natAbs - 1 = t := by omega
    have e2 : ¬ (0 - (t : Int) - 1) > 0 := by omega
    rw [e, if_neg e2, q]
    rfl
  · rw [if_pos q]
    have e : ((t : Int) + 1).natAbs - 1 = t := by omega
    have e2 : ((t : Int) + 1) > 0 := by omega
    rw [e, if_pos e2, q]
    rfl
theorem sg_of_has {n : Nat} {row : List Int} (hr : row ∈ allSw n) {a : Int} (ha : inR n a) (h : hasS row a = true) : sg row (a.natAbs - 1) = a := by
  have ht : a.natAbs - 1 < n := by have := ha.1; have := ha.2; omega
  have h1 := sg_has hr ht
  have h2 : sg row (a.natAbs - 1) = a ∨ sg row (a.natAbs - 1) = -a := by
    have := ha.1
    unfold sg
    split <;> omega
  rcases h2 with q | q
  · exact q
  · rw [q, has_neg hr ha, h] at h1
    cases h1
theorem flip_at {n : Nat} {row : List Int} (hr : row ∈ allSw n) {t : Nat} (ht : t < n) : (flip1 row).getD t 0 = 1 - row.getD t 0 := by
  have h1 := ((allSw_mem n row).mp hr).1
  have hlt : t < row.length := by omega
  simp [flip1, List.getD, List.getElem?_eq_getElem hlt]
theorem row_01 {n : Nat} {row : List Int} (hr : row ∈ allSw n) {t : Nat} (ht : t < n) : row.getD t 0 = 0 ∨ row.getD t 0 = 1 := by
  obtain ⟨h1, h2⟩ := (allSw_mem n row).mp hr
  exact h2 _ (by simp [List.getD, List.getElem?_eq_getElem (show t < row.length by omega)])
theorem ver_sg {n : Nat} {row : List Int} (hr : row ∈ allSw n) {t : Nat} (ht : t < n) : ver (sg row t) = (flip1 row).getD t 0 := by
  rw [flip_at hr ht]
  unfold ver sg
  rcases row_01 hr ht with q | q
  · have hne : ¬ row.getD t 0 = 1 := by omega
    have e2 : ¬ (0 - (t : Int) - 1) > 0 := by omega
    rw [if_neg hne, if_neg e2, q]
    rfl
  · have e2 : ((t : Int) + 1) > 0 := by omega
    rw [if_pos q, if_pos e2, q]
    rfl
theorem has_ver {n : Nat} {row : List Int} (hr : row ∈ allSw n) {b : Int} (hb : inR n b) : hasS row b = true ↔ (flip1 row).getD (b.natAbs - 1) 0 = ver b := by
  have ht : b.natAbs - 1 < n := by have := hb.1; have := hb.2; omega
  rw [flip_at hr ht]
  unfold hasS ver
  rw [decide_eq_true_eq]
  by_cases h : b > 0
  · rw [if_pos h, if_pos h]
    omega
  · rw [if_neg h, if_neg h]
    omega
theorem dedup_one {due : List Int} {v : Int} (h : ∀ x ∈ due, x = v) (hne : due ≠ []) : (dedupI due).length = 1 ∧ due.getD 0 0 = v := by
  have h1 : ∀ x ∈ dedupI due, x = v := fun x hx => h x ((mem_dedupI x due).mp hx)
  have hn := nodup_dedupI due
  constructor
  · cases hd : dedupI due with
    | nil =>
      cases due with
      | nil => exact absurd rfl hne
      | cons x xs =>
        have : x ∈ dedupI (x :: xs) := (mem_dedupI x _).mpr List.mem_cons_self
        rw [hd] at this
        cases this
    | cons x xs =>
      cases xs with
      | nil => rfl
      | cons y ys =>
        rw [hd] at h1 hn
        have e1 := h1 x (by simp)
        have e2 := h1 y (by simp)
        simp [e1, e2] at hn
  · cases due with
    | nil => exact absurd rfl hne
    | cons x xs => exact h x List.mem_cons_self
theorem dedup_one' {due : List Int} (h : (dedupI due).length = 1) : ∀ x ∈ due, x = due.getD 0 0 := by
  intro x hx
  obtain ⟨z, hz⟩ : ∃ z, dedupI due = [z] := by
    cases hd : dedupI due with
    | nil => rw [hd] at h; cases h
    | cons z zs =>
      rw [hd] at h
      cases zs with
      | nil => exact ⟨z, rfl⟩
      | cons _ _ => simp at h
  have h1 : ∀ y ∈ due, y = z := fun y hy => by
    have := (mem_dedupI y due).mpr hy
    rw [hz] at this
    exact List.mem_singleton.mp this
  have hne : due ≠ [] := fun z => by rw [z] at hx; cases hx
  rw [h1 x hx, (dedup_one h1 hne).2]
theorem mem_due {rules : List Rule} {t o : Nat} {s x : Int} : x ∈ dueL rules t s o ↔ ∃ b, Lead rules s b ∧ b.natAbs = o + 1 ∧ o ≠ t ∧ x = ver b := by
  unfold dueL
  rw [List.mem_map]
  constructor
  · rintro ⟨⟨a, b⟩, h1, rfl⟩
    obtain ⟨h2, h3⟩ := List.mem_filter.mp h1
    simp only [Bool.and_eq_true, decide_eq_true_eq, Bool.not_eq_true', decide_eq_false_iff_not] at h3
    obtain ⟨rfl, h4, h5⟩ := h3
    exact ⟨b, mem_leads.mp h2, by omega, by omega, rfl⟩
  · rintro ⟨b, h1, h2, h3, rfl⟩
    refine ⟨(s, b), List.mem_filter.mpr ⟨mem_leads.mpr h1, ?_⟩, rfl⟩
    simp only [Bool.and_eq_true, decide_eq_true_eq, Bool.not_eq_true', decide_eq_false_iff_not]
    exact ⟨trivial, by omega, by omega⟩
theorem ver_01 (b : Int) : ver b = 0 ∨ ver b = 1 := by
  unfold ver
  split
  · exact .inl rfl
  · exact .inr rfl
theorem pcl_at {n : Nat} {rules : List Rule} {row : List Int} (hr : row ∈ allSw n) {t : Nat} (ht : t < n) : ((pcl n rules).getD t []).getD ((flip1 row).getD t 0).toNat [] = needsL n rules t (sg row t) := by
  have e : (pcl n rules).getD t [] = [needsL n rules t ((t : Int) + 1), needsL n rules t (0 - (t : Int) - 1)] := by simp [pcl, ht]
  rw [e, flip_at hr ht]
  unfold sg
  rcases row_01 hr ht with q | q
  · rw [q]
    rfl
  · rw [q]
    rfl
theorem choice_flip {n : Nat} {rules : List Rule} (ok : Ok n rules) {signs : List Int} (hs : ∀ s ∈ signs, inR n s) {row : List Int} (hr : row ∈ allSw n) : isChoice (pcl n rules) (wishesL n rules signs) (flip1 row) = (sat rules row && signs.all (hasS row)) := by
  have hrl := ((allSw_mem n row).mp hr).1
  rw [Bool.eq_iff_iff, isChoice_iff, pcl_len, Bool.and_eq_true, List.all_eq_true]
  -- the wishes at a flag
  have hw : ∀ t, t < n → ((flip1 row).getD t 0 ∈ (wsh rules signs t).2 ↔ fitT rules signs (sg row t) = true) := by
    intro t ht
    have hv := ver_sg hr ht
    have h01 := ver_01 (sg row t)
    have hmem : (flip1 row).getD t 0 ∈ fitW rules signs t ↔ fitT rules signs (sg row t) = true := by
      unfold fitW
      rw [List.mem_map]
      constructor
      · rintro ⟨s, h1, h2⟩
        obtain ⟨h3, h4⟩ := List.mem_filter.mp h1
        have : s = sg row t := by
          rw [← hv] at h2
          simp only [List.mem_cons, List.not_mem_nil, or_false] at h3
          unfold sg at h2 ⊢
          unfold ver at h2
          rcases h3 with rfl | rfl
          · split
            · rfl
            · rename_i hne
              rw [if_neg hne] at h2
              have e1 : ((t : Int) + 1) > 0 := by omega
              have e2 : ¬ (0 - (t : Int) - 1) > 0 := by omega
              rw [if_pos e1, if_neg e2] at h2
              cases h2
          · split
            · rename_i hq
              rw [if_pos hq] at h2
              have e1 : ((t : Int) + 1) > 0 := by omega
              have e2 : ¬ (0 - (t : Int) - 1) > 0 := by omega
              rw [if_pos e1, if_neg e2] at h2
              cases h2
            · rfl
        rw [← this]
        exact h4
      · intro h
        refine ⟨sg row t, List.mem_filter.mpr ⟨?_, h⟩, hv⟩
        unfold sg
        split <;> simp
    show (flip1 row).getD t 0 ∈ (if (fitW rules signs t).length > 0 then fitW rules signs t else [5]) ↔ _
    rw [← hmem]
    split
    · rfl
    · rename_i hl
      have : fitW rules signs t = [] := List.eq_nil_of_length_eq_zero (by omega)
      rw [this, ← hv]
      constructor
      · intro h
        have := List.mem_singleton.mp h
        omega
      · intro h
        cases h
  -- the needs of the version taken at a flag
  have hnd : ∀ t, t < n → ((∀ p ∈ needsL n rules t (sg row t), (flip1 row).getD p.1.toNat 0 ∈ p.2) ↔ ∀ b, Lead rules (sg row t) b → b.natAbs - 1 ≠ t → hasS row b = true) := by
    intro t ht
    constructor
    · intro h b l hbt
      have hb := (l.inR ok).2
      have hb1 := hb.1
      have hb2 := hb.2
      have ho : b.natAbs - 1 < n := by omega
      have hx : ver b ∈ dueL rules t (sg row t) (b.natAbs - 1) := mem_due.mpr ⟨b, l, by omega, hbt, rfl⟩
      have hpos : (dueL rules t (sg row t) (b.natAbs - 1)).length > 0 := List.length_pos_of_mem hx
      have hp : ((((b.natAbs - 1 : Nat)) : Int), if (dedupI (dueL rules t (sg row t) (b.natAbs - 1))).length = 1 then [(dueL rules t (sg row t) (b.natAbs - 1)).getD 0 0] else [5]) ∈ needsL n rules t (sg row t) := by
        unfold needsL
        rw [List.mem_flatMap]
        refine ⟨b.natAbs - 1, List.mem_range.mpr ho, ?_⟩
        unfold needOf
        rw [if_pos hpos]
        simp
      have := h _ hp
      simp only [Int.toNat_natCast] at this
      rw [has_ver hr hb]
      split at this
      · rename_i h1
        rw [List.mem_singleton.mp this, ← dedup_one' h1 _ hx]
      · have e := List.mem_singleton.mp this
        rw [← ver_sg hr ho] at e
        have := ver_01 (sg row (b.natAbs - 1))
        omega
    · intro h p hp
      unfold needsL at hp
      obtain ⟨o, ho, hp⟩ := List.mem_flatMap.mp hp
      have ho' := List.mem_range.mp ho
      unfold needOf at hp
      split at hp
      · rename_i hpos
        have e := List.mem_singleton.mp hp
        subst e
        simp only [Int.toNat_natCast]
        have hall : ∀ x ∈ dueL rules t (sg row t) o, x = (flip1 row).getD o 0 := fun x hx => by
          obtain ⟨b, l, h1, h2, rfl⟩ := mem_due.mp hx
          have hbn : b.natAbs - 1 = o := by omega
          have := (has_ver hr (l.inR ok).2).mp (h b l (by omega))
          rw [hbn] at this
          exact this.symm
        obtain ⟨d1, d2⟩ := dedup_one hall (List.length_pos_iff.mp hpos)
        rw [if_pos d1, d2]
        simp
      · cases hp
  constructor
  · rintro ⟨_, _, h3, h4⟩
    have hfit : ∀ t, t < n → fitT rules signs (sg row t) = true := fun t ht => (hw t ht).mp (by
      have := h3 (wsh rules signs t) (List.mem_map_of_mem (List.mem_range.mpr ht))
      simpa [wsh] using this)
    have hneed : ∀ t, t < n → ∀ b, Lead rules (sg row t) b → b.natAbs - 1 ≠ t → hasS row b = true := fun t ht => (hnd t ht).mp (by
      rcases h4 t ht with q | q
      · rw [flip_at hr ht] at q
        have := row_01 hr ht
        omega
      · rw [pcl_at hr ht] at q
        exact q)
    constructor
    · unfold sat
      rw [List.all_eq_true]
      intro r hrr
      have ia := ok.a r hrr
      have ib := ok.b r hrr
      cases ha : hasS row r.1 with
      | false => rfl
      | true =>
        have e := sg_of_has hr ia ha
        have ht : r.1.natAbs - 1 < n := by have := ia.1; have := ia.2; omega
        have l : Lead rules (sg row (r.1.natAbs - 1)) r.2 := by rw [e]; exact .inl hrr
        by_cases hne : r.2.natAbs - 1 = r.1.natAbs - 1
        · have hcase : r.2 = r.1 ∨ r.2 = -r.1 := by
            have := ia.1
            have := ib.1
            omega
          rcases hcase with q | q
          · rw [q, ha]
            rfl
          · have := hfit _ ht
            rw [e] at this
            unfold fitT at this
            simp only [Bool.and_eq_true, Bool.not_eq_true', decide_eq_false_iff_not] at this
            exact absurd (mem_leads.mpr (by rw [← e, Int.zero_sub, e, ← q, ← e]; exact l)) this.1
        · rw [hneed _ ht r.2 l hne]
          rfl
    · intro s hss
      have is := hs s hss
      cases hq : hasS row s with
      | true => rfl
      | false =>
        have hn : hasS row (-s) = true := by rw [has_neg hr is, hq]; rfl
        have e := sg_of_has hr is.neg hn
        have ht : (-s).natAbs - 1 < n := by have := is.1; have := is.2; omega
        have := hfit _ ht
        rw [e] at this
        unfold fitT at this
        simp only [Bool.and_eq_true, Bool.not_eq_true', decide_eq_false_iff_not] at this
        exact absurd (by rw [Int.zero_sub, Int.neg_neg]; exact hss) this.2
  · rintro ⟨hsat, hsg⟩
    refine ⟨by simp [flip1, hrl], fun t ht => ?_, fun p hp => ?_, fun t ht => .inr ?_⟩
    · have e : (pcl n rules).getD t [] = [needsL n rules t ((t : Int) + 1), needsL n rules t (0 - (t : Int) - 1)] := by simp [pcl, ht]
      rw [e, flip_at hr ht]
      have := row_01 hr ht
      simp only [List.length_cons, List.length_nil]
      omega
    · obtain ⟨t, ht, rfl⟩ := List.mem_map.mp hp
      have ht' := List.mem_range.mp ht
      have := (hw t ht').mpr (by
        unfold fitT
        simp only [Bool.and_eq_true, Bool.not_eq_true', decide_eq_false_iff_not, Int.zero_sub]
        have hsgt := sg_has hr ht'
        have hin := sg_inR row ht'
        refine ⟨fun hl => ?_, fun hl => ?_⟩
        · have := sat_lead ok hr hsat (mem_leads.mp hl) hsgt
          rw [has_neg hr hin, hsgt] at this
          cases this
        · have := hsg _ hl
          rw [has_neg hr hin, hsgt] at this
          cases this)
      simpa [wsh] using this
    · rw [pcl_at hr ht]
      exact (hnd t ht).mpr fun b l _ => sat_lead ok hr hsat l (sg_has hr ht)
theorem cf_rows {n : Nat} {rules : List Rule} (ok : Ok n rules) {signs : List Int} (hs : ∀ s ∈ signs, inR n s) : cf (pcl n rules) (wishesL n rules signs) [] = ((every n rules).filter fun row => signs.all (hasS row)).map flip1 := by
  rw [cf_nil, prod_pcl]
  have h1 : (prodN (List.replicate n [0, 0])).filter (isChoice (pcl n rules) (wishesL n rules signs)) = ((prodN (List.replicate n [0, 0])).filter (fun ns => ns.all fun x => decide (x = 0) || decide (x = 1))).filter (isChoice (pcl n rules) (wishesL n rules signs)) := by
    rw [List.filter_filter]
    refine List.filter_congr fun ns hns => ?_
    cases hc : isChoice (pcl n rules) (wishesL n rules signs) ns with
    | false => simp
    | true =>
      rw [Bool.true_and]
      symm
      obtain ⟨h1, h2, h3, _⟩ := isChoice_iff.mp hc
      rw [pcl_len] at h1
      rw [List.all_eq_true]
      intro x hx
      obtain ⟨t, ht⟩ := List.getElem?_of_mem hx
      have htl : t < ns.length := (List.getElem?_eq_some_iff.mp ht).1
      have hx2 := h3 (wsh rules signs t) (List.mem_map_of_mem (List.mem_range.mpr (by omega)))
      have ex : ns.getD t 0 = x := by simp [List.getD, ht]
      simp only [wsh, Int.toNat_natCast, ex] at hx2
      split at hx2
      · unfold fitW at hx2
        obtain ⟨s, _, rfl⟩ := List.mem_map.mp hx2
        rcases ver_01 s with q | q <;> simp [q]
      · have h5 := List.mem_singleton.mp hx2
        have := (h2 t (by rw [pcl_len]; omega)).2
        rw [ex, h5] at this
        have e : ((pcl n rules).getD t []).length = 2 := by simp [pcl, show t < n by omega]
        rw [e] at this
        omega
  rw [h1, prod_two, List.filter_map]
  congr 1
  unfold every
  rw [List.filter_filter]
  refine List.filter_congr fun row hrow => ?_
  show isChoice (pcl n rules) (wishesL n rules signs) (flip1 row) = _
  rw [choice_flip ok hs hrow, Bool.and_comm]
end Dm.M
end

section
set_option Elab.async false
set_option linter.all false
set_option maxRecDepth 100000
set_option maxHeartbeats 1000000
set_option autoImplicit true
/-! K94K: the law's judges, stuck rules, quarrels. -/
namespace Dm.M
open PySem PySem.W
theorem law_walk_true {rules : List Rule} (hl : rules.length ≤ 20) {t : List Int} (ht : t.length ≤ 100) (hne : t ≠ []) (hc : Chain rules t) : F__law_walk [eL rules, eI t] = some (.bool true) := by
  have hlen := List.length_pos_iff.mpr hne
  have hrg : rgI (kE (.int 0)) (opE subD (unE lenD (vE 1)) (kE (.int 1))) [.va (eL rules), .va (eI t), .va (eLs (leadsL rules)), .no] = some ((List.range (t.length - 1)).map fun i : Nat => .int (i : Int)) := by
    rw [rg_ev (x := 0) (y := (t.length : Int) - 1) (by simp) (by simp) (by omega) (by omega), rangeL_sub]
  have c := comp_ev_all (e := fun i : Nat => PyData.int (i : Int)) (f := PyData.bool) (own := [3]) (tg := .nm 3) (ts := noT) (el := opE inD (tupE [(opE ixD (vE 1) (vE 3)), (opE ixD (vE 1) (opE addD (vE 3) (kE (.int 1))))]) (vE 2)) (fun _ => true) hrg (by simp; omega) (fun i hi => by
    have hi' := List.mem_range.mp hi
    obtain ⟨x, hx⟩ : ∃ x, t[i]? = some x := ⟨_, List.getElem?_eq_getElem (by omega)⟩
    obtain ⟨y, hy⟩ : ∃ y, t[i + 1]? = some y := ⟨_, List.getElem?_eq_getElem (by omega)⟩
    refine ⟨[.va (eL rules), .va (eI t), .va (eLs (leadsL rules)), .va (.int i)], rfl, rfl, ?_⟩
    have h1 : opE ixD (vE 1) (vE 3) [.va (eL rules), .va (eI t), .va (eLs (leadsL rules)), .va (.int i)] = some (.int x) := op_ev (x := eI t) rfl rfl (by rw [ixD_tu, atL_nat, hx]; rfl)
    have h2 : opE ixD (vE 1) (opE addD (vE 3) (kE (.int 1))) [.va (eL rules), .va (eI t), .va (eLs (leadsL rules)), .va (.int i)] = some (.int y) := op_ev (x := eI t) rfl (op_ev rfl rfl (addD_int _ _)) (by rw [ixD_tu, atL_succ, hy]; rfl)
    refine op_ev (x := pr .int .int (x, y)) (y := eLs (leadsL rules)) (by rw [ev_tup, ev_args1, h1, ev_args1, h2]; rfl) rfl ?_
    rw [inD_li (e := pr PyData.int PyData.int)]
    have := mem_leads.mpr (hc i x y hx hy)
    simp only [this, decide_true])
  refine run_def (r0 := [.va (eL rules), .va (eI t), .no, .no]) (z := .rt (.bool true)) rfl rfl ((blk_nx (r1 := [.va (eL rules), .va (eI t), .va (eLs (leadsL rules)), .no]) ?_).trans (ret_ev ?_))
  · rw [ev_sAsg, call1 (x := eL rules) rfl (leads_eq rules hl)]
    rfl
  · have hp : (t.length : Int) > 0 := by omega
    rw [ev_andE, call1 (x := eI t) rfl (is_integers_eq t (by omega)), Option.bind_some, truD_bool, Option.bind_some, if_pos rfl, ev_andE, op_ev (x := .int (t.length : Int)) (by simp) rfl (gtD_int _ _), ev_un, lst_ev c]
    simp only [hp, decide_true, Option.bind_some, truD_bool, if_true, allLD_bools]
    simp
theorem law_tangled_true {n : Nat} {rules : List Rule} (ok : Ok n rules) (hl : rules.length ≤ 20) {t : List Int} (h : Tangle n rules t) (ht : t.length ≤ 40) : F__law_tangled [.int n, eL rules, eI t] = some (.bool true) := by
  obtain ⟨s, h1, h2, h3⟩ := h
  have hw := law_walk_true hl (by omega) h2.ne h2.chain
  have e0 : opE ixD (vE 2) (kE (.int 0)) [.va (.int n), .va (eL rules), .va (eI t)] = some (.int s) := op_ev (x := eI t) rfl rfl (by rw [ixD_tu, atL_zero, h2.head]; rfl)
  have e1 : opE ixD (vE 2) (unE negD (kE (.int 1))) [.va (.int n), .va (eL rules), .va (eI t)] = some (.int s) := op_ev (x := eI t) (y := .int (-1)) rfl rfl (by rw [ixD_tu, atL_last, h2.last]; rfl)
  have hab : (s.natAbs : Int) ≤ (n : Int) := by have := h1.2; omega
  refine run_def (r0 := [.va (.int n), .va (eL rules), .va (eI t)]) (z := .rt _) rfl rfl (ret_ev ?_)
  rw [ev_andE, call2 (x := eL rules) (y := eI t) rfl rfl hw, Option.bind_some, truD_bool, Option.bind_some, if_pos rfl, ev_andE, op_ev (x := .int (s.natAbs : Int)) (by rw [ev_un, e0, Option.bind_some, absD_int]) rfl (leD_int _ _)]
  simp only [hab, decide_true, Option.bind_some, truD_bool, if_true]
  rw [ev_andE, op_ev e0 e1 (eqD_int s s)]
  simp only [decide_true, Option.bind_some, truD_bool, if_true]
  refine op_ev (x := .int (0 - s)) (y := eI t) (op_ev rfl e0 rfl) rfl ?_
  rw [inD_ti, show (0 : Int) - s = -s by omega]
  simp [h3]
def stB (n : Nat) (rules : List Rule) : Bool := (every n rules).isEmpty
theorem stB_iff {n : Nat} {rules : List Rule} (ok : Ok n rules) : stB n rules = true ↔ Stuck n rules := by
  rw [stuck_iff ok]
  unfold stB
  exact List.isEmpty_iff
theorem inD_lsi' (x : Int) (ys : List Int) : inD (.int x) (li .int ys) = some (.bool (decide (x ∈ ys))) := inD_li (e := PyData.int) x ys
theorem law_stuck_eq {n : Nat} {rules : List Rule} (ok : Ok n rules) (hn : n ≤ 10) (hl : rules.length ≤ 20) : F__law_stuck [.int n, eL rules] = some (.bool (stB n rules)) := by
  have hsq : seqI (callE F__law_signs [(vE 0)]) [.va (.int n), .va (eL rules), .va (.bool false), .no, .no, .no] = some ((signsL n).map .int) := by
    rw [ev_seq, call1 (x := .int n) rfl (signs_eq n hn)]
    rfl
  obtain ⟨r', q, b, s3, s4, s5, hb, rfl⟩ := forL_all (e := PyData.int) (tg := .nm 3) (b := (blk [(sAsg (.nm 4) (callE F__law_alive [(vE 0), (vE 1), (vE 3)])), (sAsg (.nm 5) (callE F__law_alive [(vE 0), (vE 1), (opE subD (kE (.int 0)) (vE 3))])), (sIf (orT (trT (unE isND (vE 4))) (trT (unE isND (vE 5)))) (blk [(sRet (kE .none))]) (blk [])), (sAsg (.nm 2) (orE (vE 2) (andE (opE inD (opE subD (kE (.int 0)) (vE 3)) (vE 4)) (opE inD (vE 3) (vE 5)))))]))
      (fun done r => ∃ (b : Bool) (s3 s4 s5 : Slot), (b = true ↔ ∃ s ∈ done, Rch rules s (-s) ∧ Rch rules (-s) s) ∧ r = [.va (.int n), .va (eL rules), .va (.bool b), s3, s4, s5]) (signsL n) [] [.va (.int n), .va (eL rules), .va (.bool false), .no, .no, .no] ⟨false, _, _, _, by simp, rfl⟩ (by
    rintro done x rest r hd ⟨b, s3, s4, s5, hb, rfl⟩
    have hx : inR n x := mem_signs.mp (by
      have hd' : signsL n = done ++ x :: rest := hd
      rw [hd']
      simp)
    have a1 := law_alive_eq ok hn hl hx
    have a2 := law_alive_eq ok hn hl hx.neg
    have hsub : ∀ s4 s5, opE subD (kE (.int 0)) (vE 3) [.va (.int n), .va (eL rules), .va (.bool b), .va (.int x), s4, s5] = some (.int (-x)) := fun s4 s5 => op_ev rfl rfl (by rw [subD_int, Int.zero_sub])
    have e1 : sAsg (.nm 4) (callE F__law_alive [(vE 0), (vE 1), (vE 3)]) [.va (.int n), .va (eL rules), .va (.bool b), .va (.int x), s4, s5] = some (.nx [.va (.int n), .va (eL rules), .va (.bool b), .va (.int x), .va (li .int (alv n rules x)), s5]) := by
      rw [ev_sAsg, call3 (x := .int n) (y := eL rules) (w := .int x) rfl rfl rfl a1]
      rfl
    have e2 : sAsg (.nm 5) (callE F__law_alive [(vE 0), (vE 1), (opE subD (kE (.int 0)) (vE 3))]) [.va (.int n), .va (eL rules), .va (.bool b), .va (.int x), .va (li .int (alv n rules x)), s5] = some (.nx [.va (.int n), .va (eL rules), .va (.bool b), .va (.int x), .va (li .int (alv n rules x)), .va (li .int (alv n rules (-x)))]) := by
      rw [ev_sAsg, call3 (x := .int n) (y := eL rules) rfl rfl (hsub _ _) a2]
      rfl
    have e4 : orE (vE 2) (andE (opE inD (opE subD (kE (.int 0)) (vE 3)) (vE 4)) (opE inD (vE 3) (vE 5))) [.va (.int n), .va (eL rules), .va (.bool b), .va (.int x), .va (li .int (alv n rules x)), .va (li .int (alv n rules (-x)))] = some (.bool (b || (decide (-x ∈ alv n rules x) && decide (x ∈ alv n rules (-x))))) := by
      rw [ev_orE, ev_andE, op_ev (y := li .int (alv n rules x)) (hsub _ _) rfl (inD_lsi' _ _), op_ev (x := .int x) (y := li .int (alv n rules (-x))) rfl rfl (inD_lsi' _ _)]
      cases b with
      | true => rfl
      | false =>
        simp only [ev_v, List.getElem?_cons_succ, List.getElem?_cons_zero, Option.bind_some, truD_bool, Bool.false_eq_true, if_false, Bool.false_or]
        cases decide (-x ∈ alv n rules x) <;> simp
    refine ⟨_, _, rfl, .inl ((blk_nx e1).trans ((blk_nx e2).trans ((blk_if rfl).trans ((blk_nx (r1 := [.va (.int n), .va (eL rules), .va (.bool (b || (decide (-x ∈ alv n rules x) && decide (x ∈ alv n rules (-x))))), .va (.int x), .va (li .int (alv n rules x)), .va (li .int (alv n rules (-x)))]) (by rw [ev_sAsg, e4]; rfl)).trans rfl)))), _, _, _, _, ?_, rfl⟩
    rw [Bool.or_eq_true, hb, Bool.and_eq_true, decide_eq_true_eq, decide_eq_true_eq, mem_alv ok hx, mem_alv ok hx.neg]
    constructor
    · rintro (⟨s, h1, h2⟩ | h)
      · exact ⟨s, List.mem_append_left _ h1, h2⟩
      · exact ⟨x, by simp, h⟩
    · rintro ⟨s, h1, h2⟩
      rcases List.mem_append.mp h1 with z | z
      · exact .inl ⟨s, z, h2⟩
      · rw [List.mem_singleton.mp z] at h2
        exact .inr h2)
  have hbs : b = stB n rules := by
    rw [Bool.eq_iff_iff, stB_iff ok, hb]
    constructor
    · rintro ⟨s, h1, h2⟩
      exact ⟨s, mem_signs.mp (by simpa using h1), h2⟩
    · rintro ⟨s, h1, h2⟩
      exact ⟨s, by simpa using mem_signs.mpr h1, h2⟩
  rw [← hbs]
  exact run_def (r0 := [.va (.int n), .va (eL rules), .no, .no, .no, .no]) (z := .rt _) rfl rfl ((blk_nx (r1 := [.va (.int n), .va (eL rules), .va (.bool false), .no, .no, .no]) rfl).trans ((blk_nx ((for_ev hsq).trans q)).trans (ret_ev rfl)))
/-! ### parcels -/
theorem pa_pcl {n : Nat} (hn : n ≤ 5) (rules : List Rule) : Pa (pcl n rules) := ⟨fun a ha => by
    obtain ⟨t, _, rfl⟩ := List.mem_map.mp ha
    simp, by rw [pcl_len]; exact hn⟩
theorem inside_pcl (n : Nat) (rules : List Rule) (signs : List Int) : Inside (pcl n rules) (wishesL n rules signs) := by
  have key : ∀ t s, ∀ p ∈ needsL n rules t s, 0 ≤ p.1 ∧ p.1 < n := fun t s p hp => by
    unfold needsL at hp
    obtain ⟨o, ho, hp⟩ := List.mem_flatMap.mp hp
    have ho' := List.mem_range.mp ho
    unfold needOf at hp
    split at hp
    · rw [List.mem_singleton.mp hp]
      exact ⟨by simp only []; omega, by simp only []; omega⟩
    · cases hp
  refine ⟨fun p hp => ?_, fun a ha v hv p hp => ?_⟩
  · obtain ⟨t, ht, rfl⟩ := List.mem_map.mp hp
    have ht' := List.mem_range.mp ht
    rw [pcl_len]
    exact ⟨by simp only [wsh]; omega, by simp only [wsh]; omega⟩
  · obtain ⟨t, _, rfl⟩ := List.mem_map.mp ha
    rw [pcl_len]
    simp only [List.mem_cons, List.not_mem_nil, or_false] at hv
    rcases hv with rfl | rfl
    · exact key _ _ p hp
    · exact key _ _ p hp
theorem wishes_len (n : Nat) (rules : List Rule) (signs : List Int) : (wishesL n rules signs).length = n := by simp [wishesL]
theorem quarrel_none {n : Nat} {rules : List Rule} (ok : Ok n rules) {row : List Int} (hr : row ∈ every n rules) : (lexS (rgi (wishesL n rules []).length)).find? (isQ (pcl n rules) (wishesL n rules [])) = none := by
  rw [List.find?_eq_none]
  intro t ht
  have hw : Within (wishesL n rules []).length t := fun i hi => mem_rgi.mp (((mem_lexS _ t).mp ht).subset hi)
  obtain ⟨h1, h2⟩ := mem_every.mp hr
  have hc : isChoice (pcl n rules) (sub (wishesL n rules []) t) (flip1 row) = true := choice_less (fun p hp => sub_mem hw hp) (by rw [choice_flip ok (by simp) h1, h2]; rfl)
  have hmem : flip1 row ∈ prodN (pcl n rules) := by
    rw [prod_pcl]
    have : flip1 row ∈ (prodN (List.replicate n [0, 0])).filter (fun ns => ns.all fun x => decide (x = 0) || decide (x = 1)) := by
      rw [prod_two]
      exact List.mem_map_of_mem h1
    exact (List.mem_filter.mp this).1
  have : has (pcl n rules) (wishesL n rules []) t = true := by
    unfold has
    have : flip1 row ∈ cf (pcl n rules) (sub (wishesL n rules []) t) [] := by
      rw [cf_nil, List.mem_filter]
      exact ⟨hmem, hc⟩
    cases hcf : cf (pcl n rules) (sub (wishesL n rules []) t) [] with
    | nil => rw [hcf] at this; cases this
    | cons _ _ => rfl
  unfold isQ
  rw [this]
  simp
theorem quarrel_some {n : Nat} {rules : List Rule} (ok : Ok n rules) (hs : every n rules = []) : ∃ t, (lexS (rgi (wishesL n rules []).length)).find? (isQ (pcl n rules) (wishesL n rules [])) = some t ∧ t.length ≤ n := by
  have key : ∀ (k : Nat) (t : List Int), t.length = k → t.Sublist (rgi n) → has (pcl n rules) (wishesL n rules []) t = false → ∃ u, u.Sublist (rgi n) ∧ isQ (pcl n rules) (wishesL n rules []) u = true := by
    intro k
    induction k using Nat.strongRecOn with
    | _ k ih =>
      intro t htk hts hth
      cases hq : (fewer t).all (has (pcl n rules) (wishesL n rules [])) with
      | true =>
        refine ⟨t, hts, ?_⟩
        unfold isQ
        rw [hth, hq]
        rfl
      | false =>
        rw [List.all_eq_false] at hq
        obtain ⟨u, hu, hu2⟩ := hq
        obtain ⟨x, hx, rfl⟩ := List.mem_map.mp hu
        have hsub := List.filter_sublist (p := fun y => !decide (y = x)) (l := t)
        have hlt : (t.filter fun y => !decide (y = x)).length < t.length := by
          have := List.length_filter_lt_length_iff_exists (p := fun y => !decide (y = x)) (l := t)
          exact this.mpr ⟨x, hx, by simp⟩
        exact ih _ (by omega) _ rfl (hsub.trans hts) (by simpa using hu2)
  have hfull : has (pcl n rules) (wishesL n rules []) (rgi n) = false := by
    have es : sub (wishesL n rules []) (rgi n) = wishesL n rules [] := by
      unfold sub rgi
      rw [List.map_map]
      apply List.ext_getElem
      · simp [wishes_len]
      · intro i h1 h2
        have : i < (wishesL n rules []).length := h2
        simp [List.getD, List.getElem?_eq_getElem this]
    unfold has
    rw [es, cf_rows ok (by simp), hs]
    rfl
  obtain ⟨u, hu1, hu2⟩ := key _ (rgi n) rfl (List.Sublist.refl _) hfull
  rw [wishes_len]
  have hum := (mem_lexS (rgi n) u).mpr hu1
  cases hf : (lexS (rgi n)).find? (isQ (pcl n rules) (wishesL n rules [])) with
  | none =>
    rw [List.find?_eq_none] at hf
    exact absurd hu2 (hf u hum)
  | some t =>
    refine ⟨t, rfl, ?_⟩
    have := ((mem_lexS _ t).mp (List.mem_of_find?_eq_some hf)).length_le
    simpa [rgi] using this
end Dm.M
end

section
set_option Elab.async false
set_option linter.all false
set_option maxRecDepth 100000
set_option maxHeartbeats 1000000
set_option autoImplicit true
/-! K94M: _law_reasoned answers True. -/
namespace Dm.M
open PySem PySem.W
theorem RsOk.walk {n : Nat} {rules : List Rule} {a b : Int} {t : List Int} (h : RsOk n rules a b t) : ∃ x y, inR n x ∧ Walk rules x y t := by
  rcases h with ⟨x, y, _, h1, h2⟩ | ⟨s, h1, h2, _⟩
  · exact ⟨x, y, h1, h2⟩
  · exact ⟨s, s, h1, h2⟩
abbrev envR (n : Nat) (rules : List Rule) (a b : Int) (s7 s8 s9 s10 s11 s12 s13 s14 s15 s16 : Slot) : Dm.Env := [.va (.int n), .va (eL rules), .va (pr .int .int (a, b)), .va (li (tu .int) (every n rules)), .va (.bool (stB n rules)), .va (.int a), .va (.int b), s7, s8, s9, s10, s11, s12, s13, s14, s15, s16]
def T_told : S := (sIf (trT (unE notND (vE 10))) (blk [(sIf (orT (notT (trT (callE F__law_walk [(vE 1), (vE 10)]))) (notT (trT (unE allLD (lstI (compI [15] (seqI (vE 10)) (.nm 15) noT (chE leD leD (kE (.int 1)) (unE absD (vE 15)) (vE 0)))))))) (blk [(sRet (kE (.bool false)))]) (blk [])), (sAsg (.nm 11) (tupE [(opE ixD (vE 10) (kE (.int 0))), (opE ixD (vE 10) (unE negD (kE (.int 1))))])), (sIf (andT (trT (opE ninD (vE 11) (tupE [(tupE [(vE 5), (vE 6)]), (tupE [(vE 5), (opE subD (kE (.int 0)) (vE 5))]), (tupE [(opE subD (kE (.int 0)) (vE 6)), (vE 6)])]))) (notT (trT (callE F__law_tangled [(vE 0), (vE 1), (vE 10)])))) (blk [(sRet (kE (.bool false)))]) (blk [])), (sIf (notT (trT (callE F__law_is [(callE F_is_reason [(vE 0), (vE 1), (vE 2), (vE 10)]), (kE (.bool true))]))) (blk [(sRet (kE (.bool false)))]) (blk []))]) (blk []))
theorem told_ok {n : Nat} {rules : List Rule} (ok : Ok n rules) (hl : rules.length ≤ 20) {a b : Int} (w : Option (List Int)) (hw : ∀ t, w = some t → RsOk n rules a b t ∧ t.length ≤ 40) (s7 s8 s9 s11 s12 s13 : Slot) :
    ∃ s11', T_told (envR n rules a b s7 s8 s9 (.va (optI w)) s11 s12 s13 .no .no .no) = some (.nx (envR n rules a b s7 s8 s9 (.va (optI w)) s11' s12 s13 .no .no .no)) := by
  cases w with
  | none => exact ⟨s11, (if_f rfl).trans rfl⟩
  | some t =>
    obtain ⟨h1, h2⟩ := hw t rfl
    obtain ⟨x, y, hx, wk⟩ := h1.walk
    refine ⟨.va (pr .int .int (x, y)), (if_t rfl).trans ?_⟩
    have c1 := law_walk_true hl (by omega) wk.ne wk.chain
    have c2 := comp_ev_all (e := PyData.int) (f := PyData.bool) (own := [15]) (it := seqI (vE 10)) (tg := .nm 15) (ts := noT) (el := chE leD leD (kE (.int 1)) (unE absD (vE 15)) (vE 0)) (r := envR n rules a b s7 s8 s9 (.va (eI t)) s11 s12 s13 .no .no .no) (xs := t) (fun _ => true) rfl (by omega) (fun s hs => by
      have hin := wk.inR ok hx s hs
      have h1 := hin.1
      have h2 := hin.2
      have e1 : (1 : Int) ≤ (s.natAbs : Int) := by omega
      have e2 : (s.natAbs : Int) ≤ (n : Int) := by omega
      refine ⟨envR n rules a b s7 s8 s9 (.va (eI t)) s11 s12 s13 .no (.va (.int s)) .no, rfl, rfl, ?_⟩
      rw [ev_ch]
      simp only [ev_k, Option.bind_some, ev_un, ev_v, List.getElem?_cons_succ, List.getElem?_cons_zero, absD_int, leD_int, e1, e2, decide_true])
    have e0 : opE ixD (vE 10) (kE (.int 0)) (envR n rules a b s7 s8 s9 (.va (eI t)) s11 s12 s13 .no .no .no) = some (.int x) := op_ev (x := eI t) rfl rfl (by rw [ixD_tu, atL_zero, wk.head]; rfl)
    have e1 : opE ixD (vE 10) (unE negD (kE (.int 1))) (envR n rules a b s7 s8 s9 (.va (eI t)) s11 s12 s13 .no .no .no) = some (.int y) := op_ev (x := eI t) (y := .int (-1)) rfl rfl (by rw [ixD_tu, atL_last, wk.last]; rfl)
    refine (blk_if ?_).trans ((blk_nx (r1 := envR n rules a b s7 s8 s9 (.va (eI t)) (.va (pr .int .int (x, y))) s12 s13 .no .no .no) ?_).trans ((blk_if ?_).trans ((blk_if ?_).trans rfl)))
    · rw [ev_or, ev_not, ev_tr, call2 (x := eL rules) (y := eI t) rfl rfl c1, ev_not, ev_tr, ev_un]
      show ((Option.bind (some (PyData.bool true)) truD).bind fun x => some (!x)).bind (fun x => if x = true then some true else (((lstI (compI [15] (seqI (vE 10)) (.nm 15) noT (chE leD leD (kE (.int 1)) (unE absD (vE 15)) (vE 0))) (envR n rules a b s7 s8 s9 (.va (eI t)) s11 s12 s13 .no .no .no)).bind allLD).bind truD).bind fun x => some (!x)) = _
      rw [lst_ev c2, Option.bind_some, Option.bind_some, allLD_bools]
      simp
    · rw [ev_sAsg, ev_tup, ev_args1]
      show (((opE ixD (vE 10) (kE (.int 0)) (envR n rules a b s7 s8 s9 (.va (eI t)) s11 s12 s13 .no .no .no)).bind fun x => (argsE [(opE ixD (vE 10) (unE negD (kE (.int 1))))] (envR n rules a b s7 s8 s9 (.va (eI t)) s11 s12 s13 .no .no .no)).bind fun xs => some (x :: xs)).bind fun xs => some (PyData.tuple xs)).bind _ = _
      rw [e0, ev_args1, e1]
      rfl
    · have q1 : opE ninD (vE 11) (tupE [(tupE [(vE 5), (vE 6)]), (tupE [(vE 5), (opE subD (kE (.int 0)) (vE 5))]), (tupE [(opE subD (kE (.int 0)) (vE 6)), (vE 6)])]) (envR n rules a b s7 s8 s9 (.va (eI t)) (.va (pr .int .int (x, y))) s12 s13 .no .no .no) = some (.bool (!decide ((x, y) ∈ endsL a b))) :=
        op_ev (x := pr .int .int (x, y)) (y := tu (pr .int .int) (endsL a b)) rfl rfl ((ninD_tu (e := pr PyData.int PyData.int) (x, y) (endsL a b)).trans (by congr))
      rw [ev_and, ev_tr, q1]
      by_cases hm : (x, y) ∈ endsL a b
      · simp [hm]
      · rcases h1 with ⟨x', y', k1, k2, k3⟩ | h
        · have q1 := k3.head.symm.trans wk.head
          have q2 := k3.last.symm.trans wk.last
          cases q1
          cases q2
          exact absurd k1 hm
        · have := call3 (F := F__law_tangled) (a := vE 0) (b := vE 1) (c := vE 10) (r := envR n rules a b s7 s8 s9 (.va (eI t)) (.va (pr .int .int (x, y))) s12 s13 .no .no .no) rfl rfl rfl (law_tangled_true ok hl h h2)
          rw [ev_not, ev_tr, this]
          simp [hm]
    · have := call2 (F := F__law_is) (b := kE (.bool true)) (a := callE F_is_reason [(vE 0), (vE 1), (vE 2), (vE 10)]) (r := envR n rules a b s7 s8 s9 (.va (eI t)) (.va (pr .int .int (x, y))) s12 s13 .no .no .no) (by rw [ev_call, ev_args1, ev_args1, ev_args1, ev_args1]; exact is_reason_true ok hl h1 h2) rfl (is_bool true)
      rw [ev_not, ev_tr, this]
      rfl
theorem flip_ev (row : List Int) {own : List Nat} {it : I} {i : Nat} {r : Dm.Env} (hi : it r = some (row.map .int)) (hl : row.length ≤ 1000) (hv : ∀ x : Int, vE i ((wipeE r own).set i (.va (.int x))) = some (.int x)) : tupI (seqI (lstI (compI own it (.nm i) noT (opE subD (kE (.int 1)) (vE i))))) r = some (eI (flip1 row)) := by
  refine tupl_ev (comp_ev_all (e := PyData.int) (f := PyData.int) (fun x => 1 - x) hi (by omega) fun x hx => ⟨_, ev_asg1 _ _ _, rfl, ?_⟩)
  exact op_ev rfl (hv x) rfl
theorem reasoned_eq {n : Nat} {rules : List Rule} (ok : Ok n rules) (hn : n ≤ 5) (hl : rules.length ≤ 20) {a b : Int} (ha : inR n a) (hb : inR n b) :
    F__law_reasoned [.int n, eL rules, pr .int .int (a, b), li (tu .int) (every n rules), .bool (stB n rules)] = some (.bool true) := by
  have hn10 : n ≤ 10 := by omega
  have hev : (every n rules).length ≤ 32 := by
    refine Nat.le_trans (List.length_filter_le _ _) ?_
    rw [allSw_len]
    exact Nat.pow_le_pow_right (by decide) hn
  have a1 := law_alive_eq ok hn10 hl ha
  have a2 := law_alive_eq ok hn10 hl hb.neg
  obtain ⟨w, w1, w2, w3⟩ := reason_eq ok hn10 hl ha hb
  have hdf := does_follow_eq ok hn10 hl ha hb
  have hrl : ∀ row ∈ every n rules, row.length = n := fun row hr => ((allSw_mem n row).mp (mem_every.mp hr).1).1
  have c7 := comp_ev_all (e := tu PyData.int) (f := PyData.bool) (own := [14]) (it := seqI (vE 3)) (tg := .nm 14) (ts := noT) (el := orE (notE (callE F__law_has [(vE 14), (vE 5)])) (callE F__law_has [(vE 14), (vE 6)])) (r := envR n rules a b .no .no .no .no .no .no .no .no .no .no) (xs := every n rules) (fun row => !hasS row a || hasS row b) rfl (by omega) (fun row hr => ⟨envR n rules a b .no .no .no .no .no .no .no (.va (eI row)) .no .no, rfl, rfl, impl_ev (hrl row hr) ha hb rfl rfl rfl rfl⟩)
  have e7 : sAsg (.nm 7) (unE allLD (lstI (compI [14] (seqI (vE 3)) (.nm 14) noT (orE (notE (callE F__law_has [(vE 14), (vE 5)])) (callE F__law_has [(vE 14), (vE 6)]))))) (envR n rules a b .no .no .no .no .no .no .no .no .no .no) = some (.nx (envR n rules a b (.va (.bool (folB n rules a b))) .no .no .no .no .no .no .no .no .no)) := by
    have hall : ((every n rules).map fun row => !hasS row a || hasS row b).all id = folB n rules a b := by
      unfold folB
      simp
    rw [ev_sAsg, ev_un, lst_ev c7, Option.bind_some, allLD_bools, hall]
    rfl
  have e8 : sAsg (.nm 8) (callE F__law_alive [(vE 0), (vE 1), (vE 5)]) (envR n rules a b (.va (.bool (folB n rules a b))) .no .no .no .no .no .no .no .no .no) = some (.nx (envR n rules a b (.va (.bool (folB n rules a b))) (.va (li .int (alv n rules a))) .no .no .no .no .no .no .no .no)) := by
    rw [ev_sAsg, call3 (x := .int n) (y := eL rules) (w := .int a) rfl rfl rfl a1]
    rfl
  have hsb : ∀ s8 s9 s10 s11 s12 s13 s14, opE subD (kE (.int 0)) (vE 6) (envR n rules a b (.va (.bool (folB n rules a b))) s8 s9 s10 s11 s12 s13 s14 .no .no) = some (.int (-b)) := fun _ _ _ _ _ _ _ => op_ev rfl rfl (by rw [subD_int, Int.zero_sub])
  have hsa : ∀ s8 s9 s10 s11 s12 s13 s14, opE subD (kE (.int 0)) (vE 5) (envR n rules a b (.va (.bool (folB n rules a b))) s8 s9 s10 s11 s12 s13 s14 .no .no) = some (.int (-a)) := fun _ _ _ _ _ _ _ => op_ev rfl rfl (by rw [subD_int, Int.zero_sub])
  have e9 : sAsg (.nm 9) (callE F__law_alive [(vE 0), (vE 1), (opE subD (kE (.int 0)) (vE 6))]) (envR n rules a b (.va (.bool (folB n rules a b))) (.va (li .int (alv n rules a))) .no .no .no .no .no .no .no .no) = some (.nx (envR n rules a b (.va (.bool (folB n rules a b))) (.va (li .int (alv n rules a))) (.va (li .int (alv n rules (-b)))) .no .no .no .no .no .no .no)) := by
    rw [ev_sAsg, call3 (x := .int n) (y := eL rules) rfl rfl (hsb _ _ _ _ _ _ _) a2]
    rfl
  have e10 : trT (opE neD (orE (opE inD (vE 6) (vE 8)) (orE (opE inD (opE subD (kE (.int 0)) (vE 5)) (vE 8)) (orE (opE inD (vE 6) (vE 9)) (vE 4)))) (vE 7)) (envR n rules a b (.va (.bool (folB n rules a b))) (.va (li .int (alv n rules a))) (.va (li .int (alv n rules (-b)))) .no .no .no .no .no .no .no) = some false := by
    have q : orE (opE inD (vE 6) (vE 8)) (orE (opE inD (opE subD (kE (.int 0)) (vE 5)) (vE 8)) (orE (opE inD (vE 6) (vE 9)) (vE 4))) (envR n rules a b (.va (.bool (folB n rules a b))) (.va (li .int (alv n rules a))) (.va (li .int (alv n rules (-b)))) .no .no .no .no .no .no .no) = some (.bool (folB n rules a b)) := by
      have f : (decide (b ∈ alv n rules a) || (decide (-a ∈ alv n rules a) || (decide (b ∈ alv n rules (-b)) || stB n rules))) = folB n rules a b := by
        rw [Bool.eq_iff_iff, folB_iff ok ha hb]
        simp only [Bool.or_eq_true, decide_eq_true_eq, mem_alv ok ha, mem_alv ok hb.neg, stB_iff ok]
        rfl
      rw [ev_orE, op_ev (x := .int b) (y := li .int (alv n rules a)) rfl rfl (inD_lsi' _ _), ev_orE, op_ev (y := li .int (alv n rules a)) (hsa _ _ _ _ _ _ _) rfl (inD_lsi' _ _), ev_orE, op_ev (x := .int b) (y := li .int (alv n rules (-b))) rfl rfl (inD_lsi' _ _), ← f]
      cases decide (b ∈ alv n rules a) <;> cases decide (-a ∈ alv n rules a) <;> cases decide (b ∈ alv n rules (-b)) <;> rfl
    rw [ev_tr, op_ev (y := .bool (folB n rules a b)) q rfl (neD_enc (e := PyData.bool) _ _)]
    simp
  have e11 : sAsg (.nm 10) (callE F_reason_for [(vE 0), (vE 1), (vE 2)]) (envR n rules a b (.va (.bool (folB n rules a b))) (.va (li .int (alv n rules a))) (.va (li .int (alv n rules (-b)))) .no .no .no .no .no .no .no) = some (.nx (envR n rules a b (.va (.bool (folB n rules a b))) (.va (li .int (alv n rules a))) (.va (li .int (alv n rules (-b)))) (.va (optI w)) .no .no .no .no .no .no)) := by
    rw [ev_sAsg, call3 (x := .int n) (y := eL rules) (w := pr .int .int (a, b)) rfl rfl rfl w1]
    rfl
  have hws : w.isSome = folB n rules a b := by
    rw [Bool.eq_iff_iff, folB_iff ok ha hb]
    cases w with
    | none => exact ⟨(fun h => by cases h), fun h => absurd h (w2 rfl)⟩
    | some t => exact ⟨fun _ => (w3 t rfl).1.reason, fun _ => rfl⟩
  have e12 : orT (notT (trT (callE F__law_is [(callE F_does_follow [(vE 0), (vE 1), (vE 2)]), (vE 7)]))) (trT (opE eqD (unE isND (vE 10)) (vE 7))) (envR n rules a b (.va (.bool (folB n rules a b))) (.va (li .int (alv n rules a))) (.va (li .int (alv n rules (-b)))) (.va (optI w)) .no .no .no .no .no .no) = some false := by
    have q1 := call2 (F := F__law_is) (a := callE F_does_follow [(vE 0), (vE 1), (vE 2)]) (b := vE 7) (r := envR n rules a b (.va (.bool (folB n rules a b))) (.va (li .int (alv n rules a))) (.va (li .int (alv n rules (-b)))) (.va (optI w)) .no .no .no .no .no .no) (call3 (x := .int n) (y := eL rules) (w := pr .int .int (a, b)) rfl rfl rfl hdf) rfl (is_bool _)
    have q2 : opE eqD (unE isND (vE 10)) (vE 7) (envR n rules a b (.va (.bool (folB n rules a b))) (.va (li .int (alv n rules a))) (.va (li .int (alv n rules (-b)))) (.va (optI w)) .no .no .no .no .no .no) = some (.bool false) := by
      refine op_ev (x := .bool (!folB n rules a b)) (y := .bool (folB n rules a b)) ?_ rfl ((eqD_enc (e := PyData.bool) _ _).trans ?_)
      · rw [← hws]
        cases w <;> rfl
      · cases folB n rules a b <;> rfl
    rw [ev_or, ev_not, ev_tr, q1, ev_tr, q2]
    rfl
  obtain ⟨s11, e13⟩ := told_ok ok hl w w3 (.va (.bool (folB n rules a b))) (.va (li .int (alv n rules a))) (.va (li .int (alv n rules (-b)))) .no .no .no
  have hcf := cf_rows ok (signs := [a, 0 - b]) (by
    intro s hs
    simp only [List.mem_cons, List.not_mem_nil, or_false] at hs
    rcases hs with rfl | rfl
    · exact ha
    · rw [Int.zero_sub]; exact hb.neg)
  have hfl : ((every n rules).filter fun row => [a, 0 - b].all (hasS row)) = (every n rules).filter fun row => hasS row a && !hasS row b := List.filter_congr fun row hr => by
    simp only [List.all_cons, List.all_nil, Bool.and_true, Int.zero_sub, has_neg (mem_every.mp hr).1 hb]
  rw [hfl] at hcf
  have htc := told_choice_eq (pa_pcl hn rules) (inside_pcl n rules [a, 0 - b])
  rw [hcf] at htc
  generalize hfree : ((every n rules).filter fun row => hasS row a && !hasS row b) = free at *
  have e14 : sAsg (.nm 12) (callE F_told_choice [(callE F__law_parcels [(vE 0), (vE 1)]), (callE F__law_wishes [(vE 0), (vE 1), (tupE [(vE 5), (opE subD (kE (.int 0)) (vE 6))])])]) (envR n rules a b (.va (.bool (folB n rules a b))) (.va (li .int (alv n rules a))) (.va (li .int (alv n rules (-b)))) (.va (optI w)) s11 .no .no .no .no .no) = some (.nx (envR n rules a b (.va (.bool (folB n rules a b))) (.va (li .int (alv n rules a))) (.va (li .int (alv n rules (-b)))) (.va (optI w)) s11 (.va (optI (free.map flip1).head?)) .no .no .no .no)) := by
    have p1 := law_parcels_eq n hn10 rules hl
    have p2 := law_wishes_eq n hn10 rules hl [a, 0 - b]
    rw [ev_sAsg, call2 (call2 (x := .int n) (y := eL rules) rfl rfl p1) (call3 (x := .int n) (y := eL rules) (w := eI [a, 0 - b]) rfl rfl rfl p2) htc]
    rfl
  have c15 := comp_ev (e := tu PyData.int) (f := tu PyData.int) (own := [14]) (it := seqI (vE 3)) (tg := .nm 14) (ts := andT (trT (callE F__law_has [(vE 14), (vE 5)])) (notT (trT (callE F__law_has [(vE 14), (vE 6)])))) (el := vE 14) (r := envR n rules a b (.va (.bool (folB n rules a b))) (.va (li .int (alv n rules a))) (.va (li .int (alv n rules (-b)))) (.va (optI w)) s11 (.va (optI (free.map flip1).head?)) .no .no .no .no) (xs := every n rules) (fun row => hasS row a && !hasS row b) id rfl (by omega) (fun row hr => by
    refine ⟨envR n rules a b (.va (.bool (folB n rules a b))) (.va (li .int (alv n rules a))) (.va (li .int (alv n rules (-b)))) (.va (optI w)) s11 (.va (optI (free.map flip1).head?)) .no (.va (eI row)) .no .no, rfl, ?_, fun _ => rfl⟩
    rw [ev_and, ev_tr, call2 (x := eI row) (y := .int a) rfl rfl (has_ok (hrl row hr) ha), ev_not, ev_tr, call2 (x := eI row) (y := .int b) rfl rfl (has_ok (hrl row hr) hb)]
    cases hasS row a <;> cases hasS row b <;> rfl)
  rw [List.map_id, hfree] at c15
  have e15 : sAsg (.nm 13) (lstI (compI [14] (seqI (vE 3)) (.nm 14) (andT (trT (callE F__law_has [(vE 14), (vE 5)])) (notT (trT (callE F__law_has [(vE 14), (vE 6)])))) (vE 14))) (envR n rules a b (.va (.bool (folB n rules a b))) (.va (li .int (alv n rules a))) (.va (li .int (alv n rules (-b)))) (.va (optI w)) s11 (.va (optI (free.map flip1).head?)) .no .no .no .no) = some (.nx (envR n rules a b (.va (.bool (folB n rules a b))) (.va (li .int (alv n rules a))) (.va (li .int (alv n rules (-b)))) (.va (optI w)) s11 (.va (optI (free.map flip1).head?)) (.va (li (tu .int) free)) .no .no .no)) := by
    rw [ev_sAsg, lst_ev c15]
    rfl
  have hfl2 : ∀ row ∈ free, row.length = n := fun row hr => by
    rw [← hfree] at hr
    exact hrl row (List.mem_filter.mp hr).1
  have e16 : ifE (trT (opE gtD (unE lenD (vE 13)) (kE (.int 0)))) (tupI (seqI (lstI (compI [16] (seqI (opE ixD (vE 13) (kE (.int 0)))) (.nm 16) noT (opE subD (kE (.int 1)) (vE 16)))))) (kE .none) (envR n rules a b (.va (.bool (folB n rules a b))) (.va (li .int (alv n rules a))) (.va (li .int (alv n rules (-b)))) (.va (optI w)) s11 (.va (optI (free.map flip1).head?)) (.va (li (tu .int) free)) .no .no .no) = some (optI (free.map flip1).head?) := by
    rw [ev_if]
    cases hf2 : free with
    | nil => rfl
    | cons row rest =>
      have ht : trT (opE gtD (unE lenD (vE 13)) (kE (.int 0))) (envR n rules a b (.va (.bool (folB n rules a b))) (.va (li .int (alv n rules a))) (.va (li .int (alv n rules (-b)))) (.va (optI w)) s11 (.va (optI (((row :: rest).map flip1)).head?)) (.va (li (tu .int) (row :: rest))) .no .no .no) = some true := by
        rw [ev_tr, op_ev (x := .int ((row :: rest).length : Int)) (by rw [ev_un]; exact lenD_li _) rfl (gtD_int _ _)]
        have : ((row :: rest).length : Int) > 0 := by rw [List.length_cons]; omega
        simp only [this, decide_true, Option.bind_some, truD_bool]
      rw [ht, Option.bind_some, if_pos rfl]
      exact flip_ev row (by rw [ev_seq, op_ev (x := li (tu .int) (row :: rest)) rfl rfl (by rw [ixD_li, atL_zero]; rfl)]; rfl) (by have := hfl2 row (by rw [hf2]; simp); omega) (fun x => rfl)
  refine run_def (r0 := [.va (.int n), .va (eL rules), .va (pr .int .int (a, b)), .va (li (tu .int) (every n rules)), .va (.bool (stB n rules)), .no, .no, .no, .no, .no, .no, .no, .no, .no, .no, .no, .no]) (z := .rt (.bool true)) rfl rfl ((blk_nx (r1 := envR n rules a b .no .no .no .no .no .no .no .no .no .no) ?_).trans ((blk_nx e7).trans ((blk_nx e8).trans ((blk_nx e9).trans ((blk_if rfl).trans ((blk_if e10).trans ((blk_nx e11).trans ((blk_if e12).trans ((blk_nx e13).trans ((blk_nx e14).trans ((blk_nx e15).trans (ret_ev ?_))))))))))))
  · rw [ev_sAsg]
    simp only [ev_v, List.getElem?_cons_succ, List.getElem?_cons_zero, Option.bind_some, ev_pr]
    rfl
  · refine call2 (x := optI (free.map flip1).head?) rfl e16 (is_opt _ fun r hr => ?_)
    have hm := List.mem_of_mem_head? hr
    obtain ⟨row, hrow, rfl⟩ := List.mem_map.mp hm
    have := hfl2 row hrow
    simp [flip1]
    omega
end Dm.M
end

section
set_option Elab.async false
set_option linter.all false
set_option maxRecDepth 100000
set_option maxHeartbeats 1000000
set_option autoImplicit true
/-! K94N: _law_asked answers True. -/
namespace Dm.M
open PySem PySem.W
abbrev envA (n : Nat) (rules : List Rule) (dr : List Int) (w : Option (List Int)) (q : Option (List Int)) (s9 s10 s11 s12 s13 s14 s15 s16 s17 s18 s19 s20 : Slot) : Dm.Env := [.va (.int n), .va (eL rules), .va (li .int dr), .va (li (tu .int) (every n rules)), .va (eP (pcl n rules)), .va (eNs (wishesL n rules [])), .va (.bool (stB n rules)), .va (optI w), .va (optI q), s9, s10, s11, s12, s13, s14, s15, s16, s17, s18, s19, s20]
def B_tn : S := (blk [(sAsg (.nm 10) (tupI (seqI (lstI (compI [18] (rgI (kE (.int 0)) (vE 0)) (.nm 18) noT (opE modD (opE fdivD (unE intD (opE ixD (vE 2) (vE 9))) (opE ixD (tupE [(kE (.int 1)), (kE (.int 2)), (kE (.int 4)), (kE (.int 8))]) (vE 18))) (kE (.int 2)))))))), (sAsg (.nm 11) (opE inD (vE 10) (vE 3))), (sIf (orT (notT (trT (callE F__law_is [(callE F_are_switches [(vE 0), (vE 1), (vE 10)]), (vE 11)]))) (notT (trT (callE F__law_is [(callE F_is_choice [(vE 4), (vE 5), (tupI (seqI (lstI (compI [17] (seqI (vE 10)) (.nm 17) noT (opE subD (kE (.int 1)) (vE 17))))))]), (vE 11)])))) (blk [(sRet (kE (.bool false)))]) (blk [])), (sAsg (.nm 12) (callE F__law_signs [(vE 0)])), (sAsg (.nm 13) (tupE [(opE ixD (vE 12) (opE modD (unE intD (opE ixD (vE 2) (opE addD (kE (.int 4)) (vE 9)))) (opE mulI (kE (.int 2)) (vE 0)))), (opE ixD (vE 12) (opE modD (opE fdivD (unE intD (opE ixD (vE 2) (opE addD (kE (.int 4)) (vE 9)))) (kE (.int 11))) (opE mulI (kE (.int 2)) (vE 0))))])), (sIf (notT (trT (callE F__law_reasoned [(vE 0), (vE 1), (vE 13), (vE 3), (vE 6)]))) (blk [(sRet (kE (.bool false)))]) (blk []))])
theorem op_modE {e m : E} {r : Dm.Env} {x n : Int} (he : e r = some (.int x)) (hm : m r = some (.int n)) (h : n ≠ 0) : opE modD (unE intD e) m r = some (.int (x.fmod n)) := op_ev (by rw [ev_un, he]; rfl) hm (modD_ok x n h)
theorem sign_at {n : Nat} (hn : 0 < n) (x : Int) : ∃ s, atL (signsL n) (x.fmod ((2 * n : Nat) : Int)) = some s ∧ inR n s := by
  obtain ⟨g1, g2⟩ := fmod_in x (n := 2 * n) (by omega)
  obtain ⟨s, h1, h2⟩ := atL_some (xs := signsL n) g1 (by rw [signs_len]; exact g2)
  exact ⟨s, h1, mem_signs.mp h2⟩
theorem turn_ok {n : Nat} (h1 : 1 ≤ n) (h4 : n ≤ 4) {rules : List Rule} (ok : Ok n rules) (hl : rules.length ≤ 20) (dr : List Int) (hd : 8 ≤ dr.length) (w q : Option (List Int)) (k : Nat) (hk : k < 4) (s10 s11 s12 s13 : Slot) :
    ∃ s10' s11' s12' s13', B_tn (envA n rules dr w q (.va (.int k)) s10 s11 s12 s13 .no .no .no .no .no .no .no) = some (.nx (envA n rules dr w q (.va (.int k)) s10' s11' s12' s13' .no .no .no .no .no .no .no)) := by
  have hn10 : n ≤ 10 := by omega
  obtain ⟨d, hdk⟩ : ∃ d, dr[k]? = some d := ⟨_, List.getElem?_eq_getElem (by omega)⟩
  obtain ⟨d4, hd4⟩ : ∃ d, dr[4 + k]? = some d := ⟨_, List.getElem?_eq_getElem (by omega)⟩
  have hr : rgI (kE (.int 0)) (vE 0) (envA n rules dr w q (.va (.int k)) s10 s11 s12 s13 .no .no .no .no .no .no .no) = some ((List.range n).map fun i : Nat => .int (i : Int)) := by
    rw [rg_ev (x := 0) (y := (n : Int)) rfl rfl (by omega) (by omega), rangeL_nat]
  have hpw : ∀ i : Nat, i < n → ∃ m : Int, (m ≠ 0 ∧ m.natAbs < 1073741824) ∧ opE ixD (tupE [(kE (.int 1)), (kE (.int 2)), (kE (.int 4)), (kE (.int 8))]) (vE 18) (envA n rules dr w q (.va (.int k)) s10 s11 s12 s13 .no .no .no .no (.va (.int i)) .no .no) = some (.int m) := by
    intro i hi
    have hi4 : i < 4 := by omega
    rcases i with _ | _ | _ | _ | i
    · exact ⟨1, by decide, rfl⟩
    · exact ⟨2, by decide, rfl⟩
    · exact ⟨4, by decide, rfl⟩
    · exact ⟨8, by decide, rfl⟩
    · omega
  have hex : ∀ i : Nat, ∃ x : Int, (x = 0 ∨ x = 1) ∧ (i < n → opE modD (opE fdivD (unE intD (opE ixD (vE 2) (vE 9))) (opE ixD (tupE [(kE (.int 1)), (kE (.int 2)), (kE (.int 4)), (kE (.int 8))]) (vE 18))) (kE (.int 2)) (envA n rules dr w q (.va (.int k)) s10 s11 s12 s13 .no .no .no .no (.va (.int i)) .no .no) = some (.int x)) := by
    intro i
    by_cases hi : i < n
    · obtain ⟨m, m1, m2⟩ := hpw i hi
      have g := fmod_inI (d.fdiv m) (n := 2) (by decide)
      refine ⟨(d.fdiv m).fmod 2, by omega, fun _ => ?_⟩
      have hix : opE ixD (vE 2) (vE 9) (envA n rules dr w q (.va (.int k)) s10 s11 s12 s13 .no .no .no .no (.va (.int i)) .no .no) = some (.int d) := op_ev (x := li .int dr) rfl rfl (by rw [ixD_li, atL_nat, hdk]; rfl)
      exact op_ev (op_ev (by rw [ev_un, hix]; rfl) m2 (fdivD_ok d m m1)) rfl (modD_ok _ 2 (by decide))
    · exact ⟨0, .inl rfl, fun z => absurd z hi⟩
  have hch := fun i => Classical.choose_spec (hex i)
  generalize hcg : (fun i => Classical.choose (hex i)) = cg at *
  have hch' : ∀ i, (cg i = 0 ∨ cg i = 1) ∧ (i < n → opE modD (opE fdivD (unE intD (opE ixD (vE 2) (vE 9))) (opE ixD (tupE [(kE (.int 1)), (kE (.int 2)), (kE (.int 4)), (kE (.int 8))]) (vE 18))) (kE (.int 2)) (envA n rules dr w q (.va (.int k)) s10 s11 s12 s13 .no .no .no .no (.va (.int i)) .no .no) = some (.int (cg i))) := fun i => by
    rw [← hcg]
    exact hch i
  have c10 := comp_ev_all (e := fun i : Nat => PyData.int (i : Int)) (f := PyData.int) (own := [18]) (tg := .nm 18) (ts := noT) (el := opE modD (opE fdivD (unE intD (opE ixD (vE 2) (vE 9))) (opE ixD (tupE [(kE (.int 1)), (kE (.int 2)), (kE (.int 4)), (kE (.int 8))]) (vE 18))) (kE (.int 2))) cg hr (by simp; omega) (fun i hi => ⟨_, rfl, rfl, (hch' i).2 (List.mem_range.mp hi)⟩)
  have hrow : (List.range n).map cg ∈ allSw n := (allSw_mem n _).mpr ⟨by simp, fun x hx => by
    obtain ⟨i, _, rfl⟩ := List.mem_map.mp hx
    exact (hch' i).1⟩
  generalize hrw : (List.range n).map cg = row at *
  have hrl := ((allSw_mem n row).mp hrow).1
  have e10 : sAsg (.nm 10) (tupI (seqI (lstI (compI [18] (rgI (kE (.int 0)) (vE 0)) (.nm 18) noT (opE modD (opE fdivD (unE intD (opE ixD (vE 2) (vE 9))) (opE ixD (tupE [(kE (.int 1)), (kE (.int 2)), (kE (.int 4)), (kE (.int 8))]) (vE 18))) (kE (.int 2))))))) (envA n rules dr w q (.va (.int k)) s10 s11 s12 s13 .no .no .no .no .no .no .no) = some (.nx (envA n rules dr w q (.va (.int k)) (.va (eI row)) s11 s12 s13 .no .no .no .no .no .no .no)) := by
    rw [ev_sAsg, tupl_ev c10]
    rfl
  have e11 : sAsg (.nm 11) (opE inD (vE 10) (vE 3)) (envA n rules dr w q (.va (.int k)) (.va (eI row)) s11 s12 s13 .no .no .no .no .no .no .no) = some (.nx (envA n rules dr w q (.va (.int k)) (.va (eI row)) (.va (.bool (decide (row ∈ every n rules)))) s12 s13 .no .no .no .no .no .no .no)) := by
    rw [ev_sAsg, op_ev (x := eI row) (y := li (tu .int) (every n rules)) rfl rfl (inD_lti _ _)]
    rfl
  have hsat : sat rules row = decide (row ∈ every n rules) := by
    rw [Bool.eq_iff_iff, decide_eq_true_eq, mem_every]
    exact ⟨fun h => ⟨hrow, h⟩, fun h => h.2⟩
  have e12 : orT (notT (trT (callE F__law_is [(callE F_are_switches [(vE 0), (vE 1), (vE 10)]), (vE 11)]))) (notT (trT (callE F__law_is [(callE F_is_choice [(vE 4), (vE 5), (tupI (seqI (lstI (compI [17] (seqI (vE 10)) (.nm 17) noT (opE subD (kE (.int 1)) (vE 17))))))]), (vE 11)]))) (envA n rules dr w q (.va (.int k)) (.va (eI row)) (.va (.bool (decide (row ∈ every n rules)))) s12 s13 .no .no .no .no .no .no .no) = some false := by
    have d1 := are_switches_eq ok hrow
    rw [hsat] at d1
    have d2 := is_choice_eq (pcl n rules) (wishesL n rules []) (inside_pcl n rules []) (flip1 row)
    rw [choice_flip ok (by simp) hrow, hsat, List.all_nil, Bool.and_true] at d2
    have q1 := call2 (F := F__law_is) (a := callE F_are_switches [(vE 0), (vE 1), (vE 10)]) (b := vE 11) (r := envA n rules dr w q (.va (.int k)) (.va (eI row)) (.va (.bool (decide (row ∈ every n rules)))) s12 s13 .no .no .no .no .no .no .no) (call3 (x := .int n) (y := eL rules) (w := eI row) rfl rfl rfl d1) rfl (is_bool _)
    have q2 := call2 (F := F__law_is) (a := callE F_is_choice [(vE 4), (vE 5), (tupI (seqI (lstI (compI [17] (seqI (vE 10)) (.nm 17) noT (opE subD (kE (.int 1)) (vE 17))))))]) (b := vE 11) (r := envA n rules dr w q (.va (.int k)) (.va (eI row)) (.va (.bool (decide (row ∈ every n rules)))) s12 s13 .no .no .no .no .no .no .no) (call3 (x := eP (pcl n rules)) (y := eNs (wishesL n rules [])) rfl rfl (flip_ev row rfl (by omega) (fun x => rfl)) d2) rfl (is_bool _)
    rw [ev_or, ev_not, ev_tr, q1, ev_not, ev_tr, q2]
    rfl
  have e13 : sAsg (.nm 12) (callE F__law_signs [(vE 0)]) (envA n rules dr w q (.va (.int k)) (.va (eI row)) (.va (.bool (decide (row ∈ every n rules)))) s12 s13 .no .no .no .no .no .no .no) = some (.nx (envA n rules dr w q (.va (.int k)) (.va (eI row)) (.va (.bool (decide (row ∈ every n rules)))) (.va (li .int (signsL n))) s13 .no .no .no .no .no .no .no)) := by
    rw [ev_sAsg, call1 (x := .int n) rfl (signs_eq n hn10)]
    rfl
  obtain ⟨a, ha1, ha2⟩ := sign_at (n := n) (by omega) d4
  obtain ⟨b, hb1, hb2⟩ := sign_at (n := n) (by omega) (d4.fdiv 11)
  have e14 : sAsg (.nm 13) (tupE [(opE ixD (vE 12) (opE modD (unE intD (opE ixD (vE 2) (opE addD (kE (.int 4)) (vE 9)))) (opE mulI (kE (.int 2)) (vE 0)))), (opE ixD (vE 12) (opE modD (opE fdivD (unE intD (opE ixD (vE 2) (opE addD (kE (.int 4)) (vE 9)))) (kE (.int 11))) (opE mulI (kE (.int 2)) (vE 0))))]) (envA n rules dr w q (.va (.int k)) (.va (eI row)) (.va (.bool (decide (row ∈ every n rules)))) (.va (li .int (signsL n))) s13 .no .no .no .no .no .no .no) = some (.nx (envA n rules dr w q (.va (.int k)) (.va (eI row)) (.va (.bool (decide (row ∈ every n rules)))) (.va (li .int (signsL n))) (.va (pr .int .int (a, b))) .no .no .no .no .no .no .no)) := by
    have hix : opE ixD (vE 2) (opE addD (kE (.int 4)) (vE 9)) (envA n rules dr w q (.va (.int k)) (.va (eI row)) (.va (.bool (decide (row ∈ every n rules)))) (.va (li .int (signsL n))) s13 .no .no .no .no .no .no .no) = some (.int d4) := by
      refine op_ev (x := li .int dr) rfl (op_ev rfl rfl (addD_int _ _)) ?_
      rw [show (4 : Int) + (k : Int) = ((4 + k : Nat) : Int) by omega, ixD_li, atL_nat, hd4]
      rfl
    have hmul : opE mulI (kE (.int 2)) (vE 0) (envA n rules dr w q (.va (.int k)) (.va (eI row)) (.va (.bool (decide (row ∈ every n rules)))) (.va (li .int (signsL n))) s13 .no .no .no .no .no .no .no) = some (.int ((2 * n : Nat) : Int)) := op_ev rfl rfl ((mulI_ok' 2 (n : Int) (by decide)).trans (by congr))
    have hne : ((2 * n : Nat) : Int) ≠ 0 := by omega
    rw [ev_sAsg, ev_tup, ev_args1, op_ev (x := li .int (signsL n)) rfl (op_modE hix hmul hne) (by rw [ixD_li, ha1]; rfl), ev_args1, op_ev (x := li .int (signsL n)) rfl (op_ev (op_ev (by rw [ev_un, hix]; rfl) rfl (fdivD_ok d4 11 (by decide))) hmul (modD_ok _ _ hne)) (by rw [ixD_li, hb1]; rfl)]
    rfl
  have e15 : notT (trT (callE F__law_reasoned [(vE 0), (vE 1), (vE 13), (vE 3), (vE 6)])) (envA n rules dr w q (.va (.int k)) (.va (eI row)) (.va (.bool (decide (row ∈ every n rules)))) (.va (li .int (signsL n))) (.va (pr .int .int (a, b))) .no .no .no .no .no .no .no) = some false := by
    have := reasoned_eq ok (by omega) hl ha2 hb2
    have hc : callE F__law_reasoned [(vE 0), (vE 1), (vE 13), (vE 3), (vE 6)] (envA n rules dr w q (.va (.int k)) (.va (eI row)) (.va (.bool (decide (row ∈ every n rules)))) (.va (li .int (signsL n))) (.va (pr .int .int (a, b))) .no .no .no .no .no .no .no) = some (.bool true) := by
      rw [ev_call, ev_args1, ev_args1, ev_args1, ev_args1, ev_args1]
      exact this
    rw [ev_not, ev_tr, hc]
    rfl
  exact ⟨_, _, _, _, (blk_nx e10).trans ((blk_nx e11).trans ((blk_if e12).trans ((blk_nx e13).trans ((blk_nx e14).trans ((blk_if e15).trans rfl)))))⟩
def B_sp : S := (blk [(sAsg (.nm 15) (tupI (seqI (lstI (compI [19] (seqI (vE 1)) (.nm 19) (trT (opE neD (vE 19) (vE 13))) (vE 19)))))), (sAsg (.nm 16) (callE F__law_every [(vE 0), (vE 15)])), (sIf (trT (unE allLD (lstI (compI [20] (seqI (vE 16)) (.nm 20) noT (orE (notE (callE F__law_has [(vE 20), (opE ixD (vE 13) (kE (.int 0)))])) (callE F__law_has [(vE 20), (opE ixD (vE 13) (kE (.int 1)))])))))) (blk [(sApp 14 (vE 13))]) (blk []))])
theorem sp_ok {n : Nat} (h4 : n ≤ 4) {rules : List Rule} (ok : Ok n rules) (hl : rules.length ≤ 20) (dr : List Int) (w q : Option (List Int)) (r : Rule) (hr : r ∈ rules) (acc : List Rule) (hacc : acc.length ≤ 20) (s9 s10 s11 s12 s15 s16 : Slot) :
    ∃ s15' s16', B_sp (envA n rules dr w q s9 s10 s11 s12 (.va (pr .int .int r)) (.ow (eLs acc)) s15 s16 .no .no .no .no) = some (.nx (envA n rules dr w q s9 s10 s11 s12 (.va (pr .int .int r)) (.ow (eLs (acc ++ if folB n (less rules r) r.1 r.2 then [r] else []))) s15' s16' .no .no .no .no)) := by
  have hn10 : n ≤ 10 := by omega
  have okl := ok.less r
  have hll := less_len rules r
  have c := comp_ev (e := pr PyData.int PyData.int) (f := pr PyData.int PyData.int) (own := [19]) (it := seqI (vE 1)) (tg := .nm 19) (ts := trT (opE neD (vE 19) (vE 13))) (el := vE 19) (r := envA n rules dr w q s9 s10 s11 s12 (.va (pr .int .int r)) (.ow (eLs acc)) s15 s16 .no .no .no .no) (xs := rules) (fun o => !decide (o = r)) id rfl (by omega) (fun o ho => ⟨envA n rules dr w q s9 s10 s11 s12 (.va (pr .int .int r)) (.ow (eLs acc)) s15 s16 .no .no (.va (pr .int .int o)) .no, rfl, by
    rw [ev_tr, op_ev (x := pr .int .int o) (y := pr .int .int r) rfl rfl (neD_enc (e := pr PyData.int PyData.int) o r)]
    rfl, fun _ => rfl⟩)
  rw [List.map_id] at c
  have hev : (every n (less rules r)).length ≤ 32 := by
    refine Nat.le_trans (List.length_filter_le _ _) ?_
    rw [allSw_len]
    exact Nat.pow_le_pow_right (by decide) (show n ≤ 5 by omega)
  have hrl : ∀ row ∈ every n (less rules r), row.length = n := fun row hr => ((allSw_mem n row).mp (mem_every.mp hr).1).1
  have e1 : sAsg (.nm 15) (tupI (seqI (lstI (compI [19] (seqI (vE 1)) (.nm 19) (trT (opE neD (vE 19) (vE 13))) (vE 19))))) (envA n rules dr w q s9 s10 s11 s12 (.va (pr .int .int r)) (.ow (eLs acc)) s15 s16 .no .no .no .no) = some (.nx (envA n rules dr w q s9 s10 s11 s12 (.va (pr .int .int r)) (.ow (eLs acc)) (.va (eL (less rules r))) s16 .no .no .no .no)) := by
    rw [ev_sAsg, tupl_ev c]
    rfl
  have e2 : sAsg (.nm 16) (callE F__law_every [(vE 0), (vE 15)]) (envA n rules dr w q s9 s10 s11 s12 (.va (pr .int .int r)) (.ow (eLs acc)) (.va (eL (less rules r))) s16 .no .no .no .no) = some (.nx (envA n rules dr w q s9 s10 s11 s12 (.va (pr .int .int r)) (.ow (eLs acc)) (.va (eL (less rules r))) (.va (li (tu .int) (every n (less rules r)))) .no .no .no .no)) := by
    rw [ev_sAsg, call2 (x := .int n) (y := eL (less rules r)) rfl rfl (law_every_eq okl hn10 (by omega))]
    rfl
  have c2 := comp_ev_all (e := tu PyData.int) (f := PyData.bool) (own := [20]) (it := seqI (vE 16)) (tg := .nm 20) (ts := noT) (el := orE (notE (callE F__law_has [(vE 20), (opE ixD (vE 13) (kE (.int 0)))])) (callE F__law_has [(vE 20), (opE ixD (vE 13) (kE (.int 1)))])) (r := envA n rules dr w q s9 s10 s11 s12 (.va (pr .int .int r)) (.ow (eLs acc)) (.va (eL (less rules r))) (.va (li (tu .int) (every n (less rules r)))) .no .no .no .no) (xs := every n (less rules r)) (fun row => !hasS row r.1 || hasS row r.2) rfl (by omega) (fun row hrow => ⟨envA n rules dr w q s9 s10 s11 s12 (.va (pr .int .int r)) (.ow (eLs acc)) (.va (eL (less rules r))) (.va (li (tu .int) (every n (less rules r)))) .no .no .no (.va (eI row)), rfl, rfl, impl_ev (hrl row hrow) (ok.a r hr) (ok.b r hr) rfl rfl rfl rfl⟩)
  have e3 : trT (unE allLD (lstI (compI [20] (seqI (vE 16)) (.nm 20) noT (orE (notE (callE F__law_has [(vE 20), (opE ixD (vE 13) (kE (.int 0)))])) (callE F__law_has [(vE 20), (opE ixD (vE 13) (kE (.int 1)))]))))) (envA n rules dr w q s9 s10 s11 s12 (.va (pr .int .int r)) (.ow (eLs acc)) (.va (eL (less rules r))) (.va (li (tu .int) (every n (less rules r)))) .no .no .no .no) = some (folB n (less rules r) r.1 r.2) := by
    have hall : ((every n (less rules r)).map fun row => !hasS row r.1 || hasS row r.2).all id = folB n (less rules r) r.1 r.2 := by
      unfold folB
      simp
    rw [ev_tr, ev_un, lst_ev c2, Option.bind_some, allLD_bools, hall]
    rfl
  refine ⟨.va (eL (less rules r)), .va (li (tu .int) (every n (less rules r))), (blk_nx e1).trans ((blk_nx e2).trans ?_)⟩
  cases hf : folB n (less rules r) r.1 r.2 with
  | false =>
    rw [hf] at e3
    refine (blk_if e3).trans ?_
    simp
  | true =>
    rw [hf] at e3
    have hok : lenOk (acc.length + 1) = true := lenOk_small (by omega)
    refine (blk_nx ((if_t e3).trans ((blk_nx (r1 := envA n rules dr w q s9 s10 s11 s12 (.va (pr .int .int r)) (.ow (eLs (acc ++ [r]))) (.va (eL (less rules r))) (.va (li (tu .int) (every n (less rules r)))) .no .no .no .no) ?_).trans rfl))).trans rfl
    rw [ev_sApp]
    simp only [ev_v, List.getElem?_cons_succ, List.getElem?_cons_zero, Option.bind_some, ev_own, li, List.length_map, hok, if_true, List.map_append, List.set_cons_succ, List.set_cons_zero]
    rfl
theorem law_is_tu {α : Type} (e : α → D) (n : Nat) (xs : List α) (h : xs.length ≤ 1000) (hx : ∀ x ∈ xs, R__law_is (n + 1) [e x, e x] = some (.bool true)) : R__law_is (n + 2) [tu e xs, tu e xs] = some (.bool true) := by
  refine run_def (r0 := [.va (tu e xs), .va (tu e xs), .no]) (z := .rt (.bool true)) rfl rfl ?_
  have hr : rgI (kE (.int 0)) (unE lenD (vE 1)) [.va (tu e xs), .va (tu e xs), .no] = some ((List.range xs.length).map fun n : Nat => .int (n : Int)) := by
    rw [rg_ev (x := 0) (y := (xs.length : Int)) (by simp) (by simp) (by omega) (by omega), rangeL_nat]
  have hc := comp_ev_all (e := fun n : Nat => PyData.int (n : Int)) (f := PyData.bool) (own := [2]) (tg := .nm 2) (ts := noT) (el := callE (R__law_is (n + 1)) [(opE ixD (vE 0) (vE 2)), (opE ixD (vE 1) (vE 2))]) (fun _ => true) hr (by simp; omega) (fun i hi => by
    have hi' : i < xs.length := List.mem_range.mp hi
    have hg : xs[i]? = some xs[i] := List.getElem?_eq_getElem hi'
    refine ⟨[.va (tu e xs), .va (tu e xs), .va (.int i)], rfl, rfl, ?_⟩
    exact call2 (op_ev (x := tu e xs) rfl rfl (by rw [ixD_tu, atL_nat, hg]; rfl)) (op_ev (x := tu e xs) rfl rfl (by rw [ixD_tu, atL_nat, hg]; rfl)) (hx _ (List.getElem_mem hi')))
  have hl := lst_ev hc
  refine (blk_if (by simp)).trans ((blk_if (by simp [isi_tu])).trans ((blk_if (by simp [isi_tu])).trans ((blk_if (by simp [isi_tu])).trans ((blk_if (by simp [isi_tu])).trans (ret_ev ?_)))))
  rw [ev_un, hl, Option.bind_some, allLD_bools]
  simp
theorem is_pairs (xs : List (Int × Int)) (h : xs.length ≤ 1000) : F__law_is [eL xs, eL xs] = some (.bool true) := law_is_tu (pr PyData.int PyData.int) 28 xs h fun p _ => law_is_row 27 [p.1, p.2] (by simp)
theorem asked_eq {n : Nat} (h1 : 1 ≤ n) (h4 : n ≤ 4) {rules : List Rule} (ok : Ok n rules) (hl : rules.length ≤ 20) (dr : List Int) (hd : 8 ≤ dr.length) : F__law_asked [.int n, eL rules, li .int dr] = some (.bool true) := by
  have hn10 : n ≤ 10 := by omega
  have hev : (every n rules).length ≤ 32 := by
    refine Nat.le_trans (List.length_filter_le _ _) ?_
    rw [allSw_len]
    exact Nat.pow_le_pow_right (by decide) (show n ≤ 5 by omega)
  have hrl : ∀ row ∈ every n rules, row.length = n := fun row hr => ((allSw_mem n row).mp (mem_every.mp hr).1).1
  have p0 := law_every_eq ok hn10 hl
  have p1 := law_parcels_eq n hn10 rules hl
  have p2 := law_wishes_eq n hn10 rules hl []
  have p3 := law_stuck_eq ok hn10 hl
  have hcf := cf_rows ok (signs := []) (by simp)
  have hfl : ((every n rules).filter fun row => ([] : List Int).all (hasS row)) = every n rules := List.filter_eq_self.mpr (by simp)
  rw [hfl] at hcf
  have htc := told_choice_eq (pa_pcl (show n ≤ 5 by omega) rules) (inside_pcl n rules [])
  have hnc := number_of_choices_eq (pa_pcl (show n ≤ 5 by omega) rules) (inside_pcl n rules [])
  rw [hcf] at htc hnc
  rw [List.length_map] at hnc
  have hts := told_switches_eq ok hn10
  obtain ⟨w, w1, w2, w3⟩ := tangle_eq ok hn10 hl
  have hq := told_quarrel_eq (pa_pcl (show n ≤ 5 by omega) rules) (inside_pcl n rules []) (by rw [wishes_len]; omega)
  obtain ⟨qr, hqr, hq1, hq2⟩ : ∃ qr : Option (List Int), F_told_quarrel [eP (pcl n rules), eNs (wishesL n rules [])] = some (optI qr) ∧ (qr.isSome = stB n rules) ∧ ∀ t, qr = some t → t.length ≤ 1000 := by
    refine ⟨_, hq, ?_, ?_⟩
    · cases hs : stB n rules with
      | true =>
        have : every n rules = [] := List.isEmpty_iff.mp hs
        obtain ⟨t, ht, _⟩ := quarrel_some ok this
        rw [ht]
        rfl
      | false =>
        cases he : every n rules with
        | nil =>
          unfold stB at hs
          rw [he] at hs
          cases hs
        | cons row rest =>
          rw [quarrel_none ok (row := row) (by rw [he]; simp)]
          rfl
    · intro t ht
      have := ((mem_lexS _ t).mp (List.mem_of_find?_eq_some ht)).length_le
      simp [rgi, wishes_len] at this
      omega
  have hws : w.isSome = stB n rules := by
    rw [Bool.eq_iff_iff, stB_iff ok]
    cases w with
    | none => exact ⟨(fun h => by cases h), fun h => absurd h (w2 rfl)⟩
    | some t =>
      refine ⟨fun _ => ?_, fun _ => rfl⟩
      have := (RsOk.reason (a := 1) (b := 1) (.inr (w3 t rfl).1) : ReasonAt n rules 1 1)
      obtain ⟨s, k1, k2, k3⟩ := (w3 t rfl).1
      have key : ∀ {a c : Int} {u : List Int}, Walk rules a c u → ∀ z ∈ u, Rch rules a z ∧ Rch rules z c := by
        intro a c u w
        induction w with
        | one =>
          intro z hz
          rw [List.mem_singleton.mp hz]
          exact ⟨.refl, .refl⟩
        | snoc w l ih =>
          intro z hz
          rcases List.mem_append.mp hz with y | y
          · exact ⟨(ih z y).1, (ih z y).2.step l⟩
          · rw [List.mem_singleton.mp y]
            exact ⟨w.rch.step l, .refl⟩
      exact ⟨s, k1, key k2 _ k3⟩
  -- the slots ahead of the turns
  let env0 (s3 s4 s5 s6 s7 s8 : Slot) : Dm.Env := [.va (.int n), .va (eL rules), .va (li .int dr), s3, s4, s5, s6, s7, s8, .no, .no, .no, .no, .no, .no, .no, .no, .no, .no, .no, .no]
  have e3 : sAsg (.nm 3) (callE F__law_every [(vE 0), (vE 1)]) (env0 .no .no .no .no .no .no) = some (.nx (env0 (.va (li (tu .int) (every n rules))) .no .no .no .no .no)) := by
    rw [ev_sAsg, call2 (x := .int n) (y := eL rules) rfl rfl p0]
    rfl
  have e4 : sAsg (.nm 4) (callE F__law_parcels [(vE 0), (vE 1)]) (env0 (.va (li (tu .int) (every n rules))) .no .no .no .no .no) = some (.nx (env0 (.va (li (tu .int) (every n rules))) (.va (eP (pcl n rules))) .no .no .no .no)) := by
    rw [ev_sAsg, call2 (x := .int n) (y := eL rules) rfl rfl p1]
    rfl
  have e5 : sAsg (.nm 5) (callE F__law_wishes [(vE 0), (vE 1), (tupE [])]) (env0 (.va (li (tu .int) (every n rules))) (.va (eP (pcl n rules))) .no .no .no .no) = some (.nx (env0 (.va (li (tu .int) (every n rules))) (.va (eP (pcl n rules))) (.va (eNs (wishesL n rules []))) .no .no .no)) := by
    rw [ev_sAsg, call3 (x := .int n) (y := eL rules) (w := eI []) rfl rfl rfl p2]
    rfl
  have e6 : sAsg (.nm 6) (callE F__law_stuck [(vE 0), (vE 1)]) (env0 (.va (li (tu .int) (every n rules))) (.va (eP (pcl n rules))) (.va (eNs (wishesL n rules []))) .no .no .no) = some (.nx (env0 (.va (li (tu .int) (every n rules))) (.va (eP (pcl n rules))) (.va (eNs (wishesL n rules []))) (.va (.bool (stB n rules))) .no .no)) := by
    rw [ev_sAsg, call2 (x := .int n) (y := eL rules) rfl rfl p3]
    rfl
  have e7 : orT (trT (unE isND (vE 6))) (trT (opE neD (vE 6) (opE eqD (unE lenD (vE 3)) (kE (.int 0))))) (env0 (.va (li (tu .int) (every n rules))) (.va (eP (pcl n rules))) (.va (eNs (wishesL n rules []))) (.va (.bool (stB n rules))) .no .no) = some false := by
    have q1 : opE eqD (unE lenD (vE 3)) (kE (.int 0)) (env0 (.va (li (tu .int) (every n rules))) (.va (eP (pcl n rules))) (.va (eNs (wishesL n rules []))) (.va (.bool (stB n rules))) .no .no) = some (.bool (stB n rules)) := by
      refine op_ev (x := .int ((every n rules).length : Int)) (by rw [ev_un]; exact lenD_li _) rfl ((eqD_int _ _).trans (congrArg (fun b => some (PyData.bool b)) ?_))
      rw [Bool.eq_iff_iff, decide_eq_true_eq]
      unfold stB
      rw [List.isEmpty_iff]
      exact ⟨fun h => List.eq_nil_of_length_eq_zero (by omega), fun h => by rw [h]; rfl⟩
    rw [ev_or, ev_tr (a := unE isND _), ev_tr, op_ev (x := .bool (stB n rules)) rfl q1 (neD_enc (e := PyData.bool) _ _)]
    simp
    rfl
  have hif1 : ∀ s6 s7 s8, ifE (trT (opE gtD (unE lenD (vE 3)) (kE (.int 0)))) (opE ixD (vE 3) (kE (.int 0))) (kE .none) (env0 (.va (li (tu .int) (every n rules))) (.va (eP (pcl n rules))) (.va (eNs (wishesL n rules []))) s6 s7 s8) = some (optI (every n rules).head?) := fun s6 s7 s8 => by
    rw [ev_if]
    cases hp : every n rules with
    | nil => rfl
    | cons row rest =>
      have ht : trT (opE gtD (unE lenD (vE 3)) (kE (.int 0))) (env0 (.va (li (tu .int) (row :: rest))) (.va (eP (pcl n rules))) (.va (eNs (wishesL n rules []))) s6 s7 s8) = some true := by
        rw [ev_tr, op_ev (x := .int ((row :: rest).length : Int)) (by rw [ev_un]; exact lenD_li _) rfl (gtD_int _ _)]
        have : ((row :: rest).length : Int) > 0 := by rw [List.length_cons]; omega
        simp only [this, decide_true, Option.bind_some, truD_bool]
      rw [ht, Option.bind_some, if_pos rfl]
      exact op_ev (x := li (tu .int) (row :: rest)) rfl rfl (by rw [ixD_li, atL_zero]; rfl)
  have hif2 : ∀ s6 s7 s8, ifE (trT (opE gtD (unE lenD (vE 3)) (kE (.int 0)))) (tupI (seqI (lstI (compI [17] (seqI (opE ixD (vE 3) (kE (.int 0)))) (.nm 17) noT (opE subD (kE (.int 1)) (vE 17)))))) (kE .none) (env0 (.va (li (tu .int) (every n rules))) (.va (eP (pcl n rules))) (.va (eNs (wishesL n rules []))) s6 s7 s8) = some (optI ((every n rules).map flip1).head?) := fun s6 s7 s8 => by
    rw [ev_if]
    cases hp : every n rules with
    | nil => rfl
    | cons row rest =>
      have ht : trT (opE gtD (unE lenD (vE 3)) (kE (.int 0))) (env0 (.va (li (tu .int) (row :: rest))) (.va (eP (pcl n rules))) (.va (eNs (wishesL n rules []))) s6 s7 s8) = some true := by
        rw [ev_tr, op_ev (x := .int ((row :: rest).length : Int)) (by rw [ev_un]; exact lenD_li _) rfl (gtD_int _ _)]
        have : ((row :: rest).length : Int) > 0 := by rw [List.length_cons]; omega
        simp only [this, decide_true, Option.bind_some, truD_bool]
      rw [ht, Option.bind_some, if_pos rfl]
      exact flip_ev row (by rw [ev_seq, op_ev (x := li (tu .int) (row :: rest)) rfl rfl (by rw [ixD_li, atL_zero]; rfl)]; rfl) (by have := hrl row (by rw [hp]; simp); omega) (fun x => rfl)
  have e8 : orT (notT (trT (callE F__law_is [(callE F_told_switches [(vE 0), (vE 1)]), (ifE (trT (opE gtD (unE lenD (vE 3)) (kE (.int 0)))) (opE ixD (vE 3) (kE (.int 0))) (kE .none))]))) (notT (trT (callE F__law_is [(callE F_number_of_choices [(vE 4), (vE 5)]), (unE lenD (vE 3))]))) (env0 (.va (li (tu .int) (every n rules))) (.va (eP (pcl n rules))) (.va (eNs (wishesL n rules []))) (.va (.bool (stB n rules))) .no .no) = some false := by
    have q1 := call2 (F := F__law_is) (call2 (F := F_told_switches) (a := vE 0) (b := vE 1) (x := .int n) (y := eL rules) rfl rfl hts) (hif1 (.va (.bool (stB n rules))) .no .no) (is_opt _ fun r hr => by have := hrl r (List.mem_of_mem_head? hr); omega)
    have q2 := call2 (F := F__law_is) (a := callE F_number_of_choices [(vE 4), (vE 5)]) (b := unE lenD (vE 3)) (r := env0 (.va (li (tu .int) (every n rules))) (.va (eP (pcl n rules))) (.va (eNs (wishesL n rules []))) (.va (.bool (stB n rules))) .no .no) (call2 (x := eP (pcl n rules)) (y := eNs (wishesL n rules [])) rfl rfl hnc) (by rw [ev_un]; exact lenD_li _) (is_int _)
    rw [ev_or, ev_not, ev_tr, q1, ev_not, ev_tr, q2]
    rfl
  have e9 : notT (trT (callE F__law_is [(callE F_told_choice [(vE 4), (vE 5)]), (ifE (trT (opE gtD (unE lenD (vE 3)) (kE (.int 0)))) (tupI (seqI (lstI (compI [17] (seqI (opE ixD (vE 3) (kE (.int 0)))) (.nm 17) noT (opE subD (kE (.int 1)) (vE 17)))))) (kE .none))])) (env0 (.va (li (tu .int) (every n rules))) (.va (eP (pcl n rules))) (.va (eNs (wishesL n rules []))) (.va (.bool (stB n rules))) .no .no) = some false := by
    have q1 := call2 (F := F__law_is) (call2 (F := F_told_choice) (a := vE 4) (b := vE 5) (x := eP (pcl n rules)) (y := eNs (wishesL n rules [])) rfl rfl htc) (hif2 (.va (.bool (stB n rules))) .no .no) (is_opt _ fun r hr => by
      obtain ⟨row, hrow, rfl⟩ := List.mem_map.mp (List.mem_of_mem_head? hr)
      have := hrl row hrow
      simp [flip1]
      omega)
    rw [ev_not, ev_tr, q1]
    rfl
  have e10 : sAsg (.nm 7) (callE F_tangle_of [(vE 0), (vE 1)]) (env0 (.va (li (tu .int) (every n rules))) (.va (eP (pcl n rules))) (.va (eNs (wishesL n rules []))) (.va (.bool (stB n rules))) .no .no) = some (.nx (env0 (.va (li (tu .int) (every n rules))) (.va (eP (pcl n rules))) (.va (eNs (wishesL n rules []))) (.va (.bool (stB n rules))) (.va (optI w)) .no)) := by
    rw [ev_sAsg, call2 (x := .int n) (y := eL rules) rfl rfl w1]
    rfl
  have e11 : sAsg (.nm 8) (callE F_told_quarrel [(vE 4), (vE 5)]) (env0 (.va (li (tu .int) (every n rules))) (.va (eP (pcl n rules))) (.va (eNs (wishesL n rules []))) (.va (.bool (stB n rules))) (.va (optI w)) .no) = some (.nx (env0 (.va (li (tu .int) (every n rules))) (.va (eP (pcl n rules))) (.va (eNs (wishesL n rules []))) (.va (.bool (stB n rules))) (.va (optI w)) (.va (optI qr)))) := by
    rw [ev_sAsg, call2 (x := eP (pcl n rules)) (y := eNs (wishesL n rules [])) rfl rfl hqr]
    rfl
  have hno : ∀ (o : Option (List Int)), isND (optI o) = some (.bool (!o.isSome)) := fun o => by cases o <;> rfl
  have e12 : orT (trT (opE eqD (unE isND (vE 7)) (vE 6))) (trT (opE eqD (unE isND (vE 8)) (vE 6))) (env0 (.va (li (tu .int) (every n rules))) (.va (eP (pcl n rules))) (.va (eNs (wishesL n rules []))) (.va (.bool (stB n rules))) (.va (optI w)) (.va (optI qr))) = some false := by
    have k1 : opE eqD (unE isND (vE 7)) (vE 6) (env0 (.va (li (tu .int) (every n rules))) (.va (eP (pcl n rules))) (.va (eNs (wishesL n rules []))) (.va (.bool (stB n rules))) (.va (optI w)) (.va (optI qr))) = some (.bool false) := op_ev (x := .bool (!w.isSome)) (y := .bool (stB n rules)) (hno w) rfl ((eqD_enc (e := PyData.bool) _ _).trans (by rw [hws]; cases stB n rules <;> rfl))
    have k2 : opE eqD (unE isND (vE 8)) (vE 6) (env0 (.va (li (tu .int) (every n rules))) (.va (eP (pcl n rules))) (.va (eNs (wishesL n rules []))) (.va (.bool (stB n rules))) (.va (optI w)) (.va (optI qr))) = some (.bool false) := op_ev (x := .bool (!qr.isSome)) (y := .bool (stB n rules)) (hno qr) rfl ((eqD_enc (e := PyData.bool) _ _).trans (by rw [hq1]; cases stB n rules <;> rfl))
    rw [ev_or, ev_tr, k1, ev_tr, k2]
    rfl
  have e13 : andT (trT (vE 6)) (orT (notT (trT (callE F__law_tangled [(vE 0), (vE 1), (vE 7)]))) (orT (notT (trT (callE F__law_is [(callE F_is_tangle [(vE 0), (vE 1), (vE 7)]), (kE (.bool true))]))) (notT (trT (callE F__law_is_integers [(vE 8)]))))) (env0 (.va (li (tu .int) (every n rules))) (.va (eP (pcl n rules))) (.va (eNs (wishesL n rules []))) (.va (.bool (stB n rules))) (.va (optI w)) (.va (optI qr))) = some false := by
    cases hs : stB n rules with
    | false => rfl
    | true =>
      rw [hs] at hws hq1
      cases w with
      | none => cases hws
      | some t =>
        cases qr with
        | none => cases hq1
        | some u =>
          obtain ⟨t1, t2⟩ := w3 t rfl
          have k1 := call3 (F := F__law_tangled) (a := vE 0) (b := vE 1) (c := vE 7) (r := env0 (.va (li (tu .int) (every n rules))) (.va (eP (pcl n rules))) (.va (eNs (wishesL n rules []))) (.va (.bool true)) (.va (optI (some t))) (.va (optI (some u)))) rfl rfl rfl (law_tangled_true ok hl t1 t2)
          have k2 := call2 (F := F__law_is) (b := kE (.bool true)) (call3 (F := F_is_tangle) (a := vE 0) (b := vE 1) (c := vE 7) (r := env0 (.va (li (tu .int) (every n rules))) (.va (eP (pcl n rules))) (.va (eNs (wishesL n rules []))) (.va (.bool true)) (.va (optI (some t))) (.va (optI (some u)))) rfl rfl rfl (is_tangle_true ok hl t1 t2)) rfl (is_bool true)
          have k3 := call1 (F := F__law_is_integers) (a := vE 8) (r := env0 (.va (li (tu .int) (every n rules))) (.va (eP (pcl n rules))) (.va (eNs (wishesL n rules []))) (.va (.bool true)) (.va (optI (some t))) (.va (optI (some u)))) rfl (is_integers_eq u (hq2 u rfl))
          rw [ev_and, ev_or, ev_not, ev_tr (a := callE F__law_tangled _), k1, ev_or, ev_not, ev_tr (a := callE F__law_is _), k2, ev_not, ev_tr (a := callE F__law_is_integers _), k3]
          rfl
  have hr4 : rgI (kE (.int 0)) (kE (.int 4)) (envA n rules dr w qr .no .no .no .no .no .no .no .no .no .no .no .no) = some ((List.range 4).map fun i : Nat => .int (i : Int)) := by
    rw [rg_ev (x := 0) (y := 4) rfl rfl (by omega) (by omega)]
    exact congrArg some (rangeL_nat 4)
  obtain ⟨r', q4, s9, s10, s11, s12, s13, rfl⟩ := forL_range (tg := .nm 9) (b := B_tn) (fun k r => ∃ s9 s10 s11 s12 s13, r = envA n rules dr w qr s9 s10 s11 s12 s13 .no .no .no .no .no .no .no) 4 (envA n rules dr w qr .no .no .no .no .no .no .no .no .no .no .no .no) ⟨_, _, _, _, _, rfl⟩ (by
    rintro k r hk ⟨s9, s10, s11, s12, s13, rfl⟩
    obtain ⟨t10, t11, t12, t13, e⟩ := turn_ok h1 h4 ok hl dr hd w qr k hk s10 s11 s12 s13
    exact ⟨_, _, rfl, .inl e, _, _, _, _, _, rfl⟩)
  obtain ⟨r', q5, s13', s15, s16, rfl⟩ := forL_all (e := pr PyData.int PyData.int) (tg := .nm 13) (b := B_sp) (fun done r => ∃ s13 s15 s16, r = envA n rules dr w qr s9 s10 s11 s12 s13 (.ow (eLs (done.filter fun r => folB n (less rules r) r.1 r.2))) s15 s16 .no .no .no .no) rules [] (envA n rules dr w qr s9 s10 s11 s12 s13 (.ow (eLs [])) .no .no .no .no .no .no) ⟨_, _, _, rfl⟩ (by
    rintro done x rest r hdn ⟨s13, s15, s16, rfl⟩
    have hdn' : rules = done ++ x :: rest := hdn
    have hx : x ∈ rules := by rw [hdn']; simp
    have hdl : done.length ≤ 20 := by rw [hdn', List.length_append] at hl; omega
    obtain ⟨t15, t16, e⟩ := sp_ok h4 ok hl dr w qr x hx (done.filter fun r => folB n (less rules r) r.1 r.2) (Nat.le_trans (List.length_filter_le _ _) hdl) s9 s10 s11 s12 s15 s16
    refine ⟨_, _, rfl, .inl e, .va (pr .int .int x), t15, t16, ?_⟩
    rw [List.filter_append]
    have : [x].filter (fun r => folB n (less rules r) r.1 r.2) = if folB n (less rules x) x.1 x.2 then [x] else [] := by
      rw [List.filter_cons, List.filter_nil]
    rw [this])
  refine run_def (r0 := env0 .no .no .no .no .no .no) (z := .rt (.bool true)) rfl rfl ((blk_nx e3).trans ((blk_nx e4).trans ((blk_nx e5).trans ((blk_nx e6).trans ((blk_if e7).trans ((blk_if e8).trans ((blk_if e9).trans ((blk_nx e10).trans ((blk_nx e11).trans ((blk_if e12).trans ((blk_if e13).trans ((blk_nx ((for_ev hr4).trans q4)).trans ((blk_nx (r1 := envA n rules dr w qr s9 s10 s11 s12 s13 (.ow (eLs [])) .no .no .no .no .no .no) rfl).trans ((blk_nx ((for_ev (xs := rules.map (pr .int .int)) rfl).trans q5)).trans (ret_ev ?_)))))))))))))))
  have hs := spare_eq ok hn10 hl
  refine call2 (call2 (x := .int n) (y := eL rules) rfl rfl hs) (y := eL (spare n rules)) rfl ?_
  -- equal rows of pairs
  exact is_pairs (spare n rules) (Nat.le_trans (List.length_filter_le _ _) (by omega))
end Dm.M
end

section
set_option Elab.async false
set_option linter.all false
set_option maxRecDepth 100000
set_option maxHeartbeats 1000000
set_option autoImplicit true
/-! K94O: the law answers True. -/
namespace Dm.M
open PySem PySem.W
/-- one of some small numbers, by a draw -/
theorem pick_nat (xs : List Int) (lo hi : Nat) (hx : ∀ x ∈ xs, (lo : Int) ≤ x ∧ x ≤ hi) (d : Int) (h : 0 < xs.length) : ∃ z : Nat, atL xs (d.fmod (xs.length : Int)) = some (z : Int) ∧ lo ≤ z ∧ z ≤ hi := by
  obtain ⟨g1, g2⟩ := fmod_inI d (n := (xs.length : Int)) (by omega)
  obtain ⟨x, hx1, hm⟩ := atL_some (xs := xs) g1 g2
  have := hx x hm
  refine ⟨x.toNat, ?_, by omega, by omega⟩
  rw [hx1]
  exact congrArg some (by omega)
def B_mk : S := (blk [(sApp 6 (tupE [(opE ixD (vE 5) (opE modD (unE intD (opE ixD (vE 3) (vE 7))) (opE mulI (kE (.int 2)) (vE 4)))), (opE ixD (vE 5) (opE modD (opE fdivD (unE intD (opE ixD (vE 3) (vE 7))) (kE (.int 11))) (opE mulI (kE (.int 2)) (vE 4))))]))])
theorem mk_ok {n : Nat} (hn : 0 < n) (pt : List Int) (hp : pt.length = 7) (t : Nat) (ht : t < 7) (rules : List Rule) (ok : Ok n rules) (hl : rules.length = t) (s0 s1 s2 : Slot) :
    ∃ rules', Ok n rules' ∧ rules'.length = t + 1 ∧ B_mk [s0, s1, s2, .va (li .int pt), .va (.int n), .va (li .int (signsL n)), .ow (eLs rules), .va (.int t)] = some (.nx [s0, s1, s2, .va (li .int pt), .va (.int n), .va (li .int (signsL n)), .ow (eLs rules'), .va (.int t)]) := by
  obtain ⟨d, hd⟩ : ∃ d, pt[t]? = some d := ⟨_, List.getElem?_eq_getElem (by omega)⟩
  obtain ⟨a, ha1, ha2⟩ := sign_at hn d
  obtain ⟨b, hb1, hb2⟩ := sign_at hn (d.fdiv 11)
  have hix : opE ixD (vE 3) (vE 7) [s0, s1, s2, .va (li .int pt), .va (.int n), .va (li .int (signsL n)), .ow (eLs rules), .va (.int t)] = some (.int d) := op_ev (x := li .int pt) rfl rfl (by rw [ixD_li, atL_nat, hd]; rfl)
  have hmul : opE mulI (kE (.int 2)) (vE 4) [s0, s1, s2, .va (li .int pt), .va (.int n), .va (li .int (signsL n)), .ow (eLs rules), .va (.int t)] = some (.int ((2 * n : Nat) : Int)) := op_ev rfl rfl ((mulI_ok' 2 (n : Int) (by decide)).trans (by congr))
  have hne : ((2 * n : Nat) : Int) ≠ 0 := by omega
  have hv : tupE [(opE ixD (vE 5) (opE modD (unE intD (opE ixD (vE 3) (vE 7))) (opE mulI (kE (.int 2)) (vE 4)))), (opE ixD (vE 5) (opE modD (opE fdivD (unE intD (opE ixD (vE 3) (vE 7))) (kE (.int 11))) (opE mulI (kE (.int 2)) (vE 4))))] [s0, s1, s2, .va (li .int pt), .va (.int n), .va (li .int (signsL n)), .ow (eLs rules), .va (.int t)] = some (pr .int .int (a, b)) := by
    rw [ev_tup, ev_args1, op_ev (x := li .int (signsL n)) rfl (op_modE hix hmul hne) (by rw [ixD_li, ha1]; rfl), ev_args1, op_ev (x := li .int (signsL n)) rfl (op_ev (op_ev (by rw [ev_un, hix]; rfl) rfl (fdivD_ok d 11 (by decide))) hmul (modD_ok _ _ hne)) (by rw [ixD_li, hb1]; rfl)]
    rfl
  have hok : lenOk (rules.length + 1) = true := lenOk_small (by omega)
  refine ⟨rules ++ [(a, b)], ⟨fun r hr => ?_, fun r hr => ?_⟩, by simp [hl], (blk_nx ?_).trans rfl⟩
  · rcases List.mem_append.mp hr with z | z
    · exact ok.a r z
    · rw [List.mem_singleton.mp z]; exact ha2
  · rcases List.mem_append.mp hr with z | z
    · exact ok.b r z
    · rw [List.mem_singleton.mp z]; exact hb2
  · rw [ev_sApp, hv]
    simp only [List.getElem?_cons_succ, List.getElem?_cons_zero, Option.bind_some, ev_own, li, List.length_map, hok, if_true, List.map_append, List.set_cons_succ, List.set_cons_zero]
    rfl
def B_k : S := (blk [(sAsg (.nm 3) (callE F__law_draws [(callE F__law_cell [(vE 0), (opE addD (kE (.int 1)) (vE 2))]), (kE (.int 7))])), (sAsg (.nm 4) (opE ixD (tupE [(kE (.int 3)), (kE (.int 4)), (kE (.int 2)), (kE (.int 1))]) (opE modD (unE intD (opE ixD (vE 1) (opE addD (kE (.int 12)) (vE 2)))) (kE (.int 4))))), (sAsg (.nm 5) (callE F__law_signs [(vE 4)])), (sOwn 6 (lstE [])), (sFor (rgI (kE (.int 0)) (opE ixD (tupE [(kE (.int 4)), (kE (.int 7)), (kE (.int 5)), (kE (.int 2)), (kE (.int 0))]) (opE modD (unE intD (opE ixD (vE 1) (opE addD (kE (.int 14)) (vE 2)))) (kE (.int 5))))) (.nm 7) B_mk), (sIf (notT (trT (callE F__law_asked [(vE 4), (tupI (seqI (unE sortSetA (bE 6)))), (cutE (vE 1) (some (opE addD (vE 2) (kE (.int 2)))) none)]))) (blk [(sRet (kE (.bool false)))]) (blk []))])
theorem k_ok (ns : List Int) (dr : List Int) (hd : dr.length = 16) (k : Nat) (hk : k < 2) (s3 s4 s5 s6 s7 : Slot) :
    ∃ s3' s4' s5' s6' s7', B_k [.va (li .int ns), .va (li .int dr), .va (.int k), s3, s4, s5, s6, s7] = some (.nx [.va (li .int ns), .va (li .int dr), .va (.int k), s3', s4', s5', s6', s7']) := by
  obtain ⟨c, hc⟩ := cell_ok ns (1 + k)
  obtain ⟨pt, hp1, _, hp2⟩ := draws_ok c 7 (by decide)
  obtain ⟨d, hdk⟩ : ∃ d, dr[12 + k]? = some d := ⟨_, List.getElem?_eq_getElem (by omega)⟩
  obtain ⟨d2, hdk2⟩ : ∃ d, dr[14 + k]? = some d := ⟨_, List.getElem?_eq_getElem (by omega)⟩
  obtain ⟨n, hn1, hn2, hn3⟩ := pick_nat [(3 : Int), 4, 2, 1] 1 4 (by decide) d (by decide)
  obtain ⟨z, hz1, hz2, hz3⟩ := pick_nat [(4 : Int), 7, 5, 2, 0] 0 7 (by decide) d2 (by decide)
  have e1 : sAsg (.nm 3) (callE F__law_draws [(callE F__law_cell [(vE 0), (opE addD (kE (.int 1)) (vE 2))]), (kE (.int 7))]) [.va (li .int ns), .va (li .int dr), .va (.int k), s3, s4, s5, s6, s7] = some (.nx [.va (li .int ns), .va (li .int dr), .va (.int k), .va (li .int pt), s4, s5, s6, s7]) := by
    have hk1 : opE addD (kE (.int 1)) (vE 2) [.va (li .int ns), .va (li .int dr), .va (.int k), s3, s4, s5, s6, s7] = some (.int ((1 + k : Nat) : Int)) := op_ev rfl rfl (by rw [addD_int]; congr 2)
    rw [ev_sAsg, call2 (F := F__law_draws) (call2 (F := F__law_cell) rfl hk1 hc) rfl hp2]
    rfl
  have hdr : ∀ (s3 s4 s5 s6 s7 : Slot) (m : Int) (j : Nat) (x : Int), m = (j : Int) → dr[j + k]? = some x → opE ixD (vE 1) (opE addD (kE (.int m)) (vE 2)) [.va (li .int ns), .va (li .int dr), .va (.int k), s3, s4, s5, s6, s7] = some (.int x) := fun s3 s4 s5 s6 s7 m j x hm hx => by
    subst hm
    refine op_ev (x := li .int dr) rfl (op_ev rfl rfl (addD_int _ _)) ?_
    rw [show (j : Int) + (k : Int) = ((j + k : Nat) : Int) by omega, ixD_li, atL_nat, hx]
    rfl
  have e2 : sAsg (.nm 4) (opE ixD (tupE [(kE (.int 3)), (kE (.int 4)), (kE (.int 2)), (kE (.int 1))]) (opE modD (unE intD (opE ixD (vE 1) (opE addD (kE (.int 12)) (vE 2)))) (kE (.int 4)))) [.va (li .int ns), .va (li .int dr), .va (.int k), .va (li .int pt), s4, s5, s6, s7] = some (.nx [.va (li .int ns), .va (li .int dr), .va (.int k), .va (li .int pt), .va (.int n), s5, s6, s7]) := by
    rw [ev_sAsg, op_ev (x := tu .int [(3 : Int), 4, 2, 1]) rfl (op_mod (hdr _ _ _ _ _ 12 12 d rfl hdk) (by decide)) (by rw [ixD_tu]; exact congrArg (Option.map PyData.int) hn1)]
    rfl
  have e3 : sAsg (.nm 5) (callE F__law_signs [(vE 4)]) [.va (li .int ns), .va (li .int dr), .va (.int k), .va (li .int pt), .va (.int n), s5, s6, s7] = some (.nx [.va (li .int ns), .va (li .int dr), .va (.int k), .va (li .int pt), .va (.int n), .va (li .int (signsL n)), s6, s7]) := by
    rw [ev_sAsg, call1 (x := .int n) rfl (signs_eq n (by omega))]
    rfl
  have hr : rgI (kE (.int 0)) (opE ixD (tupE [(kE (.int 4)), (kE (.int 7)), (kE (.int 5)), (kE (.int 2)), (kE (.int 0))]) (opE modD (unE intD (opE ixD (vE 1) (opE addD (kE (.int 14)) (vE 2)))) (kE (.int 5)))) [.va (li .int ns), .va (li .int dr), .va (.int k), .va (li .int pt), .va (.int n), .va (li .int (signsL n)), .ow (eLs []), s7] = some ((List.range z).map fun i : Nat => .int (i : Int)) := by
    rw [rg_ev (x := 0) (y := (z : Int)) rfl (op_ev (x := tu .int [(4 : Int), 7, 5, 2, 0]) rfl (op_mod (hdr _ _ _ _ _ 14 14 d2 rfl hdk2) (by decide)) (by rw [ixD_tu]; exact congrArg (Option.map PyData.int) hz1)) (by omega) (by omega), rangeL_nat]
  obtain ⟨r', q, rules, s7', ok, hrl, rfl⟩ := forL_range (tg := .nm 7) (b := B_mk) (fun t r => ∃ rules s7', Ok n rules ∧ rules.length = t ∧ r = [.va (li .int ns), .va (li .int dr), .va (.int k), .va (li .int pt), .va (.int n), .va (li .int (signsL n)), .ow (eLs rules), s7']) z [.va (li .int ns), .va (li .int dr), .va (.int k), .va (li .int pt), .va (.int n), .va (li .int (signsL n)), .ow (eLs []), s7] ⟨[], s7, ⟨by simp, by simp⟩, rfl, rfl⟩ (by
    rintro t r ht ⟨rules, s7', ok, hrl, rfl⟩
    obtain ⟨rules', ok', hl', e⟩ := mk_ok (n := n) (by omega) pt hp1 t (by omega) rules ok hrl (.va (li .int ns)) (.va (li .int dr)) (.va (.int k))
    exact ⟨_, _, rfl, .inl e, rules', _, ok', hl', rfl⟩)
  have oks : Ok n (srtP rules) := ⟨fun r hr => ok.a r (mem_srtP.mp hr), fun r hr => ok.b r (mem_srtP.mp hr)⟩
  have hsl := srtP_len rules
  have hask := asked_eq (n := n) (by omega) (by omega) oks (by omega) (dr.drop (k + 2)) (by rw [List.length_drop]; omega)
  have hset : tupI (seqI (unE sortSetA (bE 6))) [.va (li .int ns), .va (li .int dr), .va (.int k), .va (li .int pt), .va (.int n), .va (li .int (signsL n)), .ow (eLs rules), s7'] = some (eL (srtP rules)) := by
    have h1 : unE sortSetA (bE 6) [.va (li .int ns), .va (li .int dr), .va (.int k), .va (li .int pt), .va (.int n), .va (li .int (signsL n)), .ow (eLs rules), s7'] = some (eLs (srtP rules)) := sortSetA_pairs rules (by omega)
    rw [ev_tupI, ev_seq, h1]
    rfl
  have hcut : cutE (vE 1) (some (opE addD (vE 2) (kE (.int 2)))) none [.va (li .int ns), .va (li .int dr), .va (.int k), .va (li .int pt), .va (.int n), .va (li .int (signsL n)), .ow (eLs rules), s7'] = some (li .int (dr.drop (k + 2))) := by
    have e2 : (k : Int) + 2 = ((k + 2 : Nat) : Int) := by omega
    rw [ev_cut]
    simp only [ev_part1, ev_part0, ev_op, ev_v, ev_k, List.getElem?_cons_succ, List.getElem?_cons_zero, Option.bind_some, addD_int, e2, cutD_li, cutL_from]
  refine ⟨_, _, _, _, _, (blk_nx e1).trans ((blk_nx e2).trans ((blk_nx e3).trans ((blk_nx (r1 := [.va (li .int ns), .va (li .int dr), .va (.int k), .va (li .int pt), .va (.int n), .va (li .int (signsL n)), .ow (eLs []), s7]) rfl).trans ((blk_nx ((for_ev hr).trans q)).trans ((blk_if ?_).trans rfl)))))⟩
  rw [ev_not, ev_tr, call3 (x := .int n) (y := eL (srtP rules)) (w := li .int (dr.drop (k + 2))) rfl hset hcut hask]
  rfl
theorem law_true (ns : List Int) : F_law [.list (ns.map .int)] = some (.bool true) := by
  obtain ⟨c, hc⟩ := cell_ok ns 0
  obtain ⟨dr, hd1, _, hd2⟩ := draws_ok c 16 (by decide)
  have o1 : Ok 2 [(0 - 2, 0 - 1), (0 - 1, 2), (1, 0 - 1), (2, 1)] := ⟨by simp [inR], by simp [inR]⟩
  have o2 : Ok 3 [(0 - 3, 1), (1, 2), (2, 3)] := ⟨by simp [inR], by simp [inR]⟩
  have a1 := asked_eq (n := 2) (by decide) (by decide) o1 (by decide) dr (by omega)
  have a2 := asked_eq (n := 3) (by decide) (by decide) o2 (by decide) (dr.drop 1) (by rw [List.length_drop]; omega)
  obtain ⟨r', q, s2, s3, s4, s5, s6, s7, rfl⟩ := forL_range (tg := .nm 2) (b := B_k) (fun k r => ∃ s2 s3 s4 s5 s6 s7, r = [.va (li .int ns), .va (li .int dr), s2, s3, s4, s5, s6, s7]) 2 [.va (li .int ns), .va (li .int dr), .no, .no, .no, .no, .no, .no] ⟨_, _, _, _, _, _, rfl⟩ (by
    rintro k r hk ⟨s2, s3, s4, s5, s6, s7, rfl⟩
    obtain ⟨t3, t4, t5, t6, t7, e⟩ := k_ok ns dr hd1 k hk s3 s4 s5 s6 s7
    exact ⟨_, _, rfl, .inl e, _, _, _, _, _, _, rfl⟩)
  have hr : rgI (kE (.int 0)) (kE (.int 2)) [.va (li .int ns), .va (li .int dr), .no, .no, .no, .no, .no, .no] = some ((List.range 2).map fun i : Nat => .int (i : Int)) := by
    rw [rg_ev (x := 0) (y := 2) rfl rfl (by omega) (by omega)]
    exact congrArg some (rangeL_nat 2)
  refine run_def (r0 := [.va (li .int ns), .no, .no, .no, .no, .no, .no, .no]) (z := .rt (.bool true)) rfl rfl ((blk_nx (r1 := [.va (li .int ns), .va (li .int dr), .no, .no, .no, .no, .no, .no]) ?_).trans ((blk_if ?_).trans ((blk_if ?_).trans ((blk_nx ((for_ev hr).trans q)).trans (ret_ev rfl)))))
  · rw [ev_sAsg, call2 (F := F__law_draws) (call2 (F := F__law_cell) (x := li .int ns) (y := .int 0) rfl rfl hc) rfl hd2]
    rfl
  · rw [ev_not, ev_tr, call3 (F := F__law_asked) (x := .int ((2 : Nat) : Int)) (y := eL [(0 - 2, 0 - 1), (0 - 1, 2), (1, 0 - 1), (2, 1)]) (w := li .int dr) rfl rfl rfl a1]
    rfl
  · have hcut : cutE (vE 1) (some (kE (.int 1))) none [.va (li .int ns), .va (li .int dr), .no, .no, .no, .no, .no, .no] = some (li .int (dr.drop 1)) := by
      rw [ev_cut]
      simp only [ev_part1, ev_part0, ev_v, ev_k, List.getElem?_cons_succ, List.getElem?_cons_zero, Option.bind_some, cutD_li]
      exact congrArg (fun l => some (li PyData.int l)) (cutL_from dr 1)
    rw [ev_not, ev_tr, call3 (F := F__law_asked) (x := .int ((3 : Nat) : Int)) (y := eL [(0 - 3, 1), (1, 2), (2, 3)]) (w := li .int (dr.drop 1)) rfl rfl hcut a2]
    rfl
end Dm.M
end

theorem PySem.Challenge.cw_runwarden_k94_whole_rules_as_parcels_holds : PySem.Challenge.rw_runwarden_k94_whole_rules_as_parcels.Holds :=
  Rwd.holds_of fun ns _ => Dm.M.law_true ns
