import PyProof.Rows.All
import Wide.All
import OpenK.AllK
import Wide.FinOn
import PyProof.EqLayable
import KE.LtData
import KE.DataMinMax
import HandS.ForMost
import HandS.Deep
import HandS.Lambda
import HandS.Flow
import HandS.TupAny
import HandS.TupMul
import HandS.Wide
import KE.DataCmp
import HandS.IsInst
import HandS.Keys
import HandS.DictTup
import KE.SortData
import HandS.Iter
import HandS.Comp
import HandS.Defaults
import HandS.Small
import PyProof.FactsAll.list_0
import HandS.GenList
import HandS.AnyAll
import PyProof.GenCompD
import HandS.Zip
import HandS.Rev
import HandS.Conv
import HandS.Strs
import HandS.Style
import HandS.Set
import HandS.SetFor
import HandS.DictComp
import HandS.More
import HandS.HeadHook4
import HandS.HeadWalk
import KE.KStateDown
import HandS.Head0
import HandS.Head1
import HandS.Head2
import HandS.HeadEnd
import HandS.HeadHook1
import HandS.HeadHook2
import HandS.HeadHook3
import PySem.Challenge.RW_runwarden_k93_whole_weeks_as_parcels
section
set_option autoImplicit false
set_option linter.all false
/-! DSem: what the defs of the program compute, over plain data (PyData), as functions; no heap, no model. -/
namespace Dm
open PySem PySem.W
abbrev D := PyData

/-- what a name holds: nothing, a datum that never changes, a list or dict of the def's own that it may change -/
inductive Slot where
  | no
  | va (d : D)
  | ow (d : D)
abbrev Env := List Slot
inductive Res where
  | nx (r : Env)
  | rt (d : D)
  | bk (r : Env)
  | ct (r : Env)
abbrev E := Env → Option D
abbrev T := Env → Option Bool
abbrev S := Env → Option Res
abbrev I := Env → Option (List D)

/-! ### data -/
def truD : D → Option Bool
  | .none => some false
  | .bool b => some b
  | .int i => some (i != 0)
  | .str x => if x.length ≤ sizeLine then some (x.length != 0) else none
  | .list xs => some (!xs.isEmpty)
  | .tuple xs => some (!xs.isEmpty)
  | .dict _ => none
def lenOk (n : Nat) : Bool := decide (n ≤ 16777216)
def addD : D → D → Option D
  | .int a, .int b => some (.int (a + b))
  | .tuple xs, .tuple ys => if lenOk (xs.length + ys.length) then some (.tuple (xs ++ ys)) else none
  | .list xs, .list ys => if lenOk (xs.length + ys.length) then some (.list (xs ++ ys)) else none
  | _, _ => none
def subD : D → D → Option D
  | .int a, .int b => some (.int (a - b))
  | _, _ => none
/-- one factor below 2 ^ 64 -/
def small64 (a : Int) : Bool := decide (-(2 ^ 64) < a ∧ a < 2 ^ 64)
/-- a * b of ints -/
def mulI (a b : D) : Option D := match a, b with
  | .int i, .int j => if small64 i || small64 j then some (.int (i * j)) else none
  | _, _ => none
/-- [..] * k -/
def repL (a b : D) : Option D := match a, b with
  | .list xs, .int k => if lenOk (xs.length * k.toNat) && decide (-(2 ^ 63) ≤ k ∧ k < 2 ^ 63) then some (.list (List.replicate k.toNat xs).flatten) else none
  | _, _ => none
/-- (..) * k -/
def repT (a b : D) : Option D := match a, b with
  | .tuple xs, .int k => if decide (xs.length ≤ 1000 ∧ 1 ≤ k ∧ k ≤ 1000) && !xs.isEmpty then some (.tuple (List.replicate k.toNat xs).flatten) else none
  | _, _ => none
def fdivD : D → D → Option D
  | .int a, .int b => if decide (b ≠ 0 ∧ b.natAbs < 1073741824) then some (.int (a.fdiv b)) else none
  | _, _ => none
def modD : D → D → Option D
  | .int a, .int b => if decide (b ≠ 0) then some (.int (a.fmod b)) else none
  | _, _ => none
def powD : D → D → Option D
  | .int a, .int b => if decide (0 ≤ b ∧ b ≤ 1000000 ∧ a.natAbs < 2 ^ 64) then some (.int (a ^ b.toNat)) else none
  | _, _ => none
def negD : D → Option D
  | .int a => some (.int (-a))
  | _ => none
def plain (d : D) : Bool := SeqAt.shaped d
def eqD (a b : D) : Option D := if plain a && plain b then some (.bool (PyData.eqv a b)) else none
def neD (a b : D) : Option D := if plain a && plain b then some (.bool (!PyData.eqv a b)) else none
def isNone : D → Bool
  | .none => true
  | _ => false
def ordOk (a b : D) : Bool := alike a b && !isNone a && plain a && plain b
def ltD (a b : D) : Option D := if ordOk a b then some (.bool (dataLt a b)) else none
def gtD (a b : D) : Option D := if ordOk a b then some (.bool (dataLt b a)) else none
def leD (a b : D) : Option D := if ordOk a b then some (.bool (!dataLt b a)) else none
def geD (a b : D) : Option D := if ordOk a b then some (.bool (!dataLt a b)) else none
def isND (a : D) : Option D := some (.bool (isNone a))
def notND (a : D) : Option D := some (.bool (!isNone a))

/-! dicts: keys are ints and texts, or tuples of them -/
def flatK : D → Bool
  | .int _ => true
  | .str _ => true
  | _ => false
def tupK : D → Bool
  | .tuple xs => xs.all flatK
  | _ => false
def keyK (d : D) : Bool := flatK d || tupK d
/-- k is of the kind of the keys that are there -/
def fitsK (kvs : List (D × D)) (k : D) : Bool := (flatK k && kvs.all fun p => flatK p.1) || (tupK k && kvs.all fun p => tupK p.1)
def lookD (kvs : List (D × D)) (k : D) : Option D := (kvs.find? fun p => PyData.eqv p.1 k).map (·.2)
def putD (kvs : List (D × D)) (k v : D) : List (D × D) :=
  if (kvs.any fun p => PyData.eqv p.1 k) = true then kvs.map (fun p => if PyData.eqv p.1 k = true then (p.1, v) else p) else kvs ++ [(k, v)]

def inL (x : D) (ys : List D) : Bool := ys.any fun z => PyData.eqv z x
def inD (x c : D) : Option D := match c with
  | .list ys => if plain x && plain c then some (.bool (inL x ys)) else none
  | .tuple ys => if plain x && plain c then some (.bool (inL x ys)) else none
  | .dict kvs => if fitsK kvs x then some (.bool (lookD kvs x).isSome) else none
  | _ => none
def ninD (x c : D) : Option D := match c with
  | .list ys => if plain x && plain c then some (.bool (!inL x ys)) else none
  | .tuple ys => if plain x && plain c then some (.bool (!inL x ys)) else none
  | .dict kvs => if fitsK kvs x then some (.bool (!(lookD kvs x).isSome)) else none
  | _ => none
/-- the item at a place of any sign -/
def atL {α : Type} (xs : List α) (i : Int) : Option α := if 0 ≤ i then xs[i.toNat]? else if 0 ≤ (xs.length : Int) + i then xs[((xs.length : Int) + i).toNat]? else none
def ixD (c i : D) : Option D := match c, i with
  | .list xs, .int n => atL xs n
  | .tuple xs, .int n => atL xs n
  | .dict kvs, k => if fitsK kvs k then lookD kvs k else none
  | _, _ => none
/-- the bound of a slice -/
def clampI (n : Nat) (i : Int) : Nat := if i < 0 then (i + (n : Int)).toNat else min i.toNat n
def cutL {α : Type} (xs : List α) (lo hi : Option Int) : List α :=
  let a := match lo with | none => 0 | some i => clampI xs.length i
  let b := match hi with | none => xs.length | some i => clampI xs.length i
  (xs.drop a).take (b - a)
/-- xs[i::-1] (i told: from it down; not told: all turned round) -/
def backL {α : Type} (xs : List α) (lo : Option Int) : List α := match lo with
  | none => xs.reverse
  | some i => if i < 0 then (xs.take (((xs.length : Int) + i + 1).toNat)).reverse else (xs.take (min (i.toNat + 1) xs.length)).reverse
def lenD : D → Option D
  | .list xs => some (.int xs.length)
  | .tuple xs => some (.int xs.length)
  | _ => none
def intsOf : List D → Option (List Int)
  | [] => some []
  | .int i :: r => (intsOf r).map (i :: ·)
  | _ :: _ => none
/-- the items of a list or tuple -/
def seqD : D → Option (List D)
  | .list xs => some xs
  | .tuple xs => some xs
  | _ => none
def sumD : D → Option D
  | .list xs => (intsOf xs).map fun ns => .int ns.sum
  | _ => none
/-- any two can be compared -/
def sortOk (xs : List D) : Bool := xs.all fun a => (xs.all fun b => alike a b) && (!isNone a && plain a)
def leB (a b : D) : Bool := !dataLt b a
def emptyT : D → Bool
  | .tuple [] => true
  | _ => false
/-- no empty tuple, or the first one is -/
def headT (xs : List D) : Bool := (xs.all fun d => !emptyT d) || (match xs with | d :: _ => emptyT d | [] => true)
def sortL (xs : List D) : Option (List D) := if sortOk xs && headT xs && lenOk xs.length then some (xs.mergeSort leB) else none
def maxL : List D → Option D
  | [] => none
  | x :: xs => if sortOk (x :: xs) then some (maxD x xs) else none
def minL : List D → Option D
  | [] => none
  | x :: xs => if sortOk (x :: xs) then some (minD x xs) else none
def max2 : D → D → Option D
  | .int a, .int b => some (.int (if b > a then b else a))
  | _, _ => none
def min2 : D → D → Option D
  | .int a, .int b => some (.int (if b < a then b else a))
  | _, _ => none
def absD : D → Option D
  | .int a => some (.int (if a < 0 then -a else a))
  | _ => none
def intD : D → Option D
  | .int a => some (.int a)
  | .bool b => some (.int (if b then 1 else 0))
  | _ => none
inductive Ty where
  | int | bool | str | tup
def isiB (t : Ty) (d : D) : Bool := match t, d with
  | .int, .int _ => true
  | .int, .bool _ => true
  | .bool, .bool _ => true
  | .str, .str _ => true
  | .tup, .tuple _ => true
  | _, _ => false
def isDict : D → Bool
  | .dict _ => true
  | _ => false
def isiD (t : Ty) (d : D) : Option D := if isDict d then none else some (.bool (isiB t d))
/-- as a set: each once, the first one kept -/
def dedup : List D → List D
  | [] => []
  | x :: xs => x :: (dedup xs).filter fun y => !PyData.eqv y x
/-- ints, or texts, or tuples of ints -/
def isInt : D → Bool
  | .int _ => true
  | _ => false
def intTup : D → Bool
  | .tuple xs => xs.all isInt
  | _ => false
def setOk (xs : List D) : Bool := (xs.all isInt && decide (xs.length < 4096)) || (xs.all intTup && decide (xs.length < 64))
def setL (xs : List D) : Option (List D) := if setOk xs then some (dedup xs) else none
/-- nothing that can change is in it -/
def fixed : D → Bool
  | .list _ => false
  | .dict _ => false
  | .tuple xs => fixedAll xs
  | _ => true
where fixedAll : List D → Bool
  | [] => true
  | x :: xs => fixed x && fixedAll xs
/-- the place of the first equal one -/
def indexL (xs : List D) (y : D) : Option Nat := xs.findIdx? fun z => PyData.eqv z y
def indexD (c y : D) : Option D := match c with
  | .list xs => if plain c && plain y then (indexL xs y).map (fun (n : Nat) => PyData.int (Int.ofNat n)) else none
  | .tuple xs => if plain c && plain y then (indexL xs y).map (fun (n : Nat) => PyData.int (Int.ofNat n)) else none
  | _ => none

/-! ### expressions -/
def kE (d : D) : E := fun _ => some d
def vE (i : Nat) : E := fun r => match r[i]? with
  | some (.va d) => some d
  | _ => none
/-- the own list of a name, looked at -/
def bE (i : Nat) : E := fun r => match r[i]? with
  | some (.va d) => some d
  | some (.ow d) => some d
  | _ => none
def opE (o : D → D → Option D) (a b : E) : E := fun r => do o (← a r) (← b r)
def unE (o : D → Option D) (a : E) : E := fun r => do o (← a r)
def trT (a : E) : T := fun r => do truD (← a r)
def notT (t : T) : T := fun r => do some (!(← t r))
def andT (t u : T) : T := fun r => do if ← t r then u r else some false
def orT (t u : T) : T := fun r => do if ← t r then some true else u r
def ifE (t : T) (a b : E) : E := fun r => do if ← t r then a r else b r
def notE (a : E) : E := fun r => do some (.bool (!(← truD (← a r))))
def andE (a b : E) : E := fun r => do
  let x ← a r
  if ← truD x then b r else some x
def orE (a b : E) : E := fun r => do
  let x ← a r
  if ← truD x then some x else b r
/-- a < b < c: b once -/
def chE (o p : D → D → Option D) (a b c : E) : E := fun r => do
  let x ← a r
  let y ← b r
  match ← o x y with
  | .bool true => p y (← c r)
  | .bool false => some (.bool false)
  | _ => none
def chE3 (o p q : D → D → Option D) (a b c d : E) : E := fun r => do
  let x ← a r
  let y ← b r
  match ← o x y with
  | .bool true =>
    let z ← c r
    match ← p y z with
    | .bool true => q z (← d r)
    | .bool false => some (.bool false)
    | _ => none
  | .bool false => some (.bool false)
  | _ => none
def argsE : List E → Env → Option (List D)
  | [], _ => some []
  | e :: es, r => do
    let x ← e r
    let xs ← argsE es r
    some (x :: xs)
def tupE (es : List E) : E := fun r => do some (.tuple (← argsE es r))
def lstE (es : List E) : E := fun r => do some (.list (← argsE es r))
def callE (f : List D → Option D) (es : List E) : E := fun r => do f (← argsE es r)
/-- a call that looks at own lists: what comes back holds none -/
def callB (f : List D → Option D) (es : List E) : E := fun r => do
  let d ← f (← argsE es r)
  if fixed d then some d else none
def partE : Option E → Env → Option (Option Int)
  | none, _ => some none
  | some e, r => match e r with
    | some (.int i) => some (some i)
    | _ => none
def cutD (x : D) (a b : Option Int) : Option D := match x with
  | .list xs => some (.list (cutL xs a b))
  | .tuple xs => some (.tuple (cutL xs a b))
  | _ => none
def cutE (c : E) (lo hi : Option E) : E := fun r => do
  let x ← c r
  let a ← partE lo r
  let b ← partE hi r
  cutD x a b
def backD (x : D) (a : Option Int) : Option D := match x with
  | .tuple xs => some (.tuple (backL xs a))
  | .list xs => match a with
    | none => some (.list xs.reverse)
    | some _ => none
  | _ => none
def backE (c : E) (lo : Option E) : E := fun r => do
  let x ← c r
  let a ← partE lo r
  backD x a

/-! ### what is walked -/
def seqI (a : E) : I := fun r => do seqD (← a r)
/-- the items, or the keys of a dict -/
def itemsD : D → Option (List D)
  | .list xs => some xs
  | .tuple xs => some xs
  | .dict kvs => some (kvs.map (·.1))
  | _ => none
def anyI (a : E) : I := fun r => do itemsD (← a r)
def keysI (a : E) : I := fun r => do match ← a r with
  | .dict kvs => some (kvs.map (·.1))
  | _ => none
def big62 (a : Int) : Bool := decide (-(2 ^ 62) ≤ a ∧ a < 2 ^ 62)
def rangeL (lo hi : Int) : List D := (List.range (hi - lo).toNat).map fun i : Nat => .int (lo + (i : Int))
def rgI (lo hi : E) : I := fun r => do match ← lo r, ← hi r with
  | .int a, .int b => if big62 a && big62 b then some (rangeL a b) else none
  | _, _ => none
/-- range(a, b, -1) -/
def rgDownI (lo hi : E) : I := fun r => do match ← lo r, ← hi r with
  | .int a, .int b => if big62 a && big62 b then some ((List.range (a - b).toNat).map fun i : Nat => .int (a - (i : Int))) else none
  | _, _ => none
def enumL : Nat → List D → List D
  | _, [] => []
  | n, x :: xs => .tuple [.int n, x] :: enumL (n + 1) xs
def enumD : D → Option (List D)
  | .list xs => some (enumL 0 xs)
  | _ => none
def enumI (a : E) : I := fun r => do enumD (← a r)
def zipL : List D → List D → List D
  | x :: xs, y :: ys => .tuple [x, y] :: zipL xs ys
  | _, _ => []
def zipD (x y : D) : Option (List D) := match x, y with
  | .list xs, .list ys => some (zipL xs ys)
  | .tuple xs, .tuple ys => some (zipL xs ys)
  | _, _ => none
def zipI (a b : E) : I := fun r => do zipD (← a r) (← b r)
def revI (a : E) : I := fun r => do some (← seqD (← a r)).reverse
def itmI (a : E) : I := fun r => do match ← a r with
  | .dict kvs => some (kvs.map fun p => .tuple [p.1, p.2])
  | _ => none

/-! ### targets -/
inductive Tg where
  | nm (i : Nat)
  | tp (ts : List Tg)
mutual
def asg : Tg → D → Env → Option Env
  | .nm i, d, r => some (r.set i (.va d))
  | .tp ts, d, r => match d with
    | .tuple xs => if ts.length = xs.length then asgs ts xs r else none
    | _ => none
def asgs : List Tg → List D → Env → Option Env
  | [], _, r => some r
  | t :: ts, x :: xs, r => do asgs ts xs (← asg t x r)
  | _ :: _, [], _ => none
end

/-! ### comprehensions -/
def wipeE (r : Env) : List Nat → Env
  | [] => r
  | v :: vs => (wipeE r vs).set v .no
def noT : T := fun _ => some true
/-- [el for tg in xs if ts] -/
def compL (r : Env) (tg : Tg) (ts : T) (el : E) : List D → Option (List D)
  | [] => some []
  | x :: xs => do
    let r1 ← asg tg x r
    if ← ts r1 then do
      let y ← el r1
      let ys ← compL r tg ts el xs
      some (y :: ys)
    else compL r tg ts el xs
def comp2L (r : Env) (tg : Tg) (ts : T) (own2 : List Nat) (it2 : I) (tg2 : Tg) (ts2 : T) (el : E) : List D → Option (List D)
  | [] => some []
  | x :: xs => do
    let r1 ← asg tg x r
    if ← ts r1 then do
      let zs ← it2 r1
      let ys ← compL (wipeE r1 own2) tg2 ts2 el zs
      let yss ← comp2L r tg ts own2 it2 tg2 ts2 el xs
      some (ys ++ yss)
    else comp2L r tg ts own2 it2 tg2 ts2 el xs
def fitL (xs : List D) : Option (List D) := if lenOk xs.length then some xs else none
def compI (own : List Nat) (it : I) (tg : Tg) (ts : T) (el : E) : I := fun r => do fitL (← compL (wipeE r own) tg ts el (← it r))
def comp2I (own : List Nat) (it : I) (tg : Tg) (ts : T) (own2 : List Nat) (it2 : I) (tg2 : Tg) (ts2 : T) (el : E) : I := fun r => do
  fitL (← comp2L (wipeE r own) tg ts own2 it2 tg2 ts2 el (← it r))
/-- all(el for tg in xs if ts) (w = true), any(..) (w = false): goes on while what comes is w -/
def qL (w : Bool) (r : Env) (tg : Tg) (ts : T) (el : E) : List D → Option Bool
  | [] => some w
  | x :: xs => do
    let r1 ← asg tg x r
    if ← ts r1 then match ← el r1 with
      | .bool b => if b = w then qL w r tg ts el xs else some b
      | _ => none
    else qL w r tg ts el xs
def allE (own : List Nat) (it : I) (tg : Tg) (ts : T) (el : E) : E := fun r => do some (.bool (← qL true (wipeE r own) tg ts el (← it r)))
def anyE (own : List Nat) (it : I) (tg : Tg) (ts : T) (el : E) : E := fun r => do some (.bool (← qL false (wipeE r own) tg ts el (← it r)))
/-- all(xs), any(xs) of a list of truth values -/
def boolsOf : List D → Option (List Bool)
  | [] => some []
  | .bool b :: r => (boolsOf r).map (b :: ·)
  | _ :: _ => none
def lstI (it : I) : E := fun r => do some (.list (← it r))
def tupI (it : I) : E := fun r => do some (.tuple (← it r))
def allLD : D → Option D
  | .list xs => (boolsOf xs).map fun bs => .bool (bs.all id)
  | _ => none
def anyLD : D → Option D
  | .list xs => (boolsOf xs).map fun bs => .bool (bs.any id)
  | _ => none
def sortE (it : I) : E := fun r => do some (.list (← sortL (← it r)))
/-- sorted(d), a dict of less than 64 int keys -/
def sortKD : D → Option D
  | .dict kvs => match intsOf (kvs.map (·.1)) with
    | some ns => if decide (ns.length < 64) then some (.list ((ns.mergeSort fun a b => decide (a ≤ b)).map .int)) else none
    | none => none
  | _ => none
def sortLD : D → Option D
  | .list xs => (sortL xs).map .list
  | _ => none
def maxE (it : I) : E := fun r => do maxL (← it r)
def minE (it : I) : E := fun r => do minL (← it r)
def lenSetE (it : I) : E := fun r => do some (.int (← setL (← it r)).length)
def dedupI : List Int → List Int
  | [] => []
  | x :: xs => if x ∈ xs then dedupI xs else x :: dedupI xs
/-- the ints of a list, each once, in order -/
def sortSetD : D → Option D
  | .list xs => match intsOf xs with
    | some ns => if decide (ns.length < 4000) && decide ((dedupI ns).length < 64) then some (.list (((dedupI ns).mergeSort fun a b => decide (a ≤ b)).map .int)) else none
    | none => none
  | _ => none
def lenSetD : D → Option D
  | .list xs => match intsOf xs with
    | some ns => if decide (ns.length < 4000) then some (.int (dedupI ns).length) else none
    | none => none
  | _ => none
/-- {k: v for tg in xs} -/
def dcompL (r : Env) (tg : Tg) (ts : T) (k v : E) (acc : List (D × D)) : List D → Option (List (D × D))
  | [] => some acc
  | x :: xs => do
    let r1 ← asg tg x r
    if ← ts r1 then do
      let a ← k r1
      let b ← v r1
      if flatK a && lenOk (acc.length + 1) then dcompL r tg ts k v (putD acc a b) xs else none
    else dcompL r tg ts k v acc xs
def dcompE (own : List Nat) (it : I) (tg : Tg) (ts : T) (k v : E) : E := fun r => do some (.dict (← dcompL (wipeE r own) tg ts k v [] (← it r)))
def dispL : List (E × E) → List (D × D) → Env → Option (List (D × D))
  | [], acc, _ => some acc
  | (k, v) :: ps, acc, r => do
    let a ← k r
    let b ← v r
    if fitsK acc a then dispL ps (putD acc a b) r else none
def dispE (ps : List (E × E)) : E := fun r => do some (.dict (← dispL ps [] r))
def getE (c k : E) (x : Option E) : E := fun r => do match ← c r with
  | .dict kvs => do
    let a ← k r
    let d ← match x with
      | none => some PyData.none
      | some e => e r
    if fitsK kvs a then some ((lookD kvs a).getD d) else none
  | _ => none

/-! ### statements -/
def blk : List S → S
  | [], r => some (.nx r)
  | s :: ss, r => do match ← s r with
    | .nx r1 => blk ss r1
    | x => some x
def sAsg (tg : Tg) (e : E) : S := fun r => do
  let d ← e r
  some (.nx (← asg tg d r))
/-- a new list or dict, the def's own -/
def sOwn (i : Nat) (e : E) : S := fun r => do some (.nx (r.set i (.ow (← e r))))
/-- the own list of j from now on read by the name i, too, and never changed -/
def sMove (i j : Nat) : S := fun r => do match r[j]? with
  | some (.ow d) => some (.nx ((r.set j (.va d)).set i (.va d)))
  | _ => none
def own (r : Env) (i : Nat) : Option D := match r[i]? with
  | some (.ow d) => some d
  | _ => none
def sApp (i : Nat) (e : E) : S := fun r => do
  let d ← e r
  match ← own r i with
  | .list xs => if lenOk (xs.length + 1) then some (.nx (r.set i (.ow (.list (xs ++ [d]))))) else none
  | _ => none
/-- x.append(y), y's own list or dict never changed from now on -/
def sAppMv (i j : Nat) : S := fun r => do
  let d ← own r j
  match ← own r i with
  | .list xs => if lenOk (xs.length + 1) && decide (i ≠ j) then some (.nx ((r.set j (.va d)).set i (.ow (.list (xs ++ [d]))))) else none
  | _ => none
def sExt (i : Nat) (it : I) : S := fun r => do
  let ys ← it r
  match ← own r i with
  | .list xs => if lenOk (xs.length + ys.length) then some (.nx (r.set i (.ow (.list (xs ++ ys))))) else none
  | _ => none
def setAt (xs : List D) (i : Int) (d : D) : Option (List D) :=
  if 0 ≤ i then (if i.toNat < xs.length then some (xs.set i.toNat d) else none)
  else if 0 ≤ (xs.length : Int) + i then some (xs.set ((xs.length : Int) + i).toNat d) else none
/-- x[k] = e -/
def sPut (i : Nat) (k e : E) : S := fun r => do
  let d ← e r
  let a ← k r
  match ← own r i with
  | .list xs => match a with
    | .int n => do some (.nx (r.set i (.ow (.list (← setAt xs n d)))))
    | _ => none
  | .dict kvs => if fitsK kvs a && lenOk (kvs.length + 1) then some (.nx (r.set i (.ow (.dict (putD kvs a d))))) else none
  | _ => none
/-- tg = x.pop() -/
def sPop (tg : Tg) (i : Nat) : S := fun r => do match ← own r i with
  | .list xs => match xs.getLast? with
    | some d => do some (.nx (← asg tg d (r.set i (.ow (.list xs.dropLast)))))
    | none => none
  | _ => none
def sPop0 (tg : Tg) (i : Nat) : S := fun r => do match ← own r i with
  | .list (x :: xs) => do some (.nx (← asg tg x (r.set i (.ow (.list xs)))))
  | _ => none
def eraseD (y : D) : List D → Option (List D)
  | [] => none
  | x :: xs => if PyData.eqv x y then some xs else (eraseD y xs).map (x :: ·)
def sRem (i : Nat) (e : E) : S := fun r => do
  let d ← e r
  match ← own r i with
  | .list xs => if plain d && plain (.list xs) then do some (.nx (r.set i (.ow (.list (← eraseD d xs))))) else none
  | _ => none
def sExpr (e : E) : S := fun r => do
  let _ ← e r
  some (.nx r)
def sRet (e : E) : S := fun r => do some (.rt (← e r))
def sIf (t : T) (a b : S) : S := fun r => do if ← t r then a r else b r
def sPass : S := fun r => some (.nx r)
def sBrk : S := fun r => some (.bk r)
def sCnt : S := fun r => some (.ct r)
def forL (tg : Tg) (b : S) : List D → S
  | [], r => some (.nx r)
  | x :: xs, r => do
    let r1 ← asg tg x r
    match ← b r1 with
    | .nx r2 => forL tg b xs r2
    | .ct r2 => forL tg b xs r2
    | .bk r2 => some (.nx r2)
    | .rt d => some (.rt d)
def sFor (it : I) (tg : Tg) (b : S) : S := fun r => do forL tg b (← it r) r
def whL (t : T) (b : S) : Nat → S
  | 0, _ => none
  | n + 1, r => do
    if ← t r then
      match ← b r with
      | .nx r2 => whL t b n r2
      | .ct r2 => whL t b n r2
      | .bk r2 => some (.nx r2)
      | .rt d => some (.rt d)
    else some (.nx r)
def sWh (t : T) (b : S) : S := whL t b 100000
/-- a def of p parameters and n names -/
def dDef (p n : Nat) (b : S) (as : List D) : Option D :=
  if as.length = p then
    match b (as.map .va ++ List.replicate (n - p) .no) with
    | some (.rt d) => some d
    | some (.nx _) => some .none
    | _ => none
  else none
/-- x[lo::-1].index(y), x a tuple -/
def tixD (x y : D) : Option D := match x with
  | .tuple _ => indexD x y
  | _ => none
def tupD (d : D) : Option D := (seqD d).map .tuple
def lstD (d : D) : Option D := (seqD d).map .list
/-- tuple(range(..)) of not too many -/
def rgI' (lo hi : E) : I := fun r => do fitL (← rgI lo hi r)
end Dm
end

section
set_option Elab.async false
set_option linter.all false
set_option autoImplicit true
set_option maxRecDepth 100000
/-! DCore: values of the heap that stand for data; names that hold them; the judgements. -/
namespace Dm
open PySem PySem.Spec PyProof.Rows L2

/-- the heap without some addresses -/
def mns (S : List Addr) (H : Hp) : Hp := fun a => if a ∈ S then none else H a
def Good : HO → Prop
  | .lst _ => True
  | .tup _ => True
  | .dK _ => True
  | .dT _ => True
  | _ => False
/-- what is to be read in H is so in H', too -/
structure Le (H H' : Hp) : Prop where
  rd : ∀ a u, Good u → Rd H a u → Rd H' a u
  tup : ∀ a xs, H a = some (.tup xs) → H' a = some (.tup xs)
  emp : ∀ a u, (u = .dK [] ∨ u = .dT []) → H a = some u → H' a = some u
theorem Le.refl (H : Hp) : Le H H := ⟨fun _ _ _ h => h, fun _ _ h => h, fun _ _ _ h => h⟩
theorem Le.trans {H H1 H2 : Hp} (a : Le H H1) (b : Le H1 H2) : Le H H2 := ⟨fun c u g h => b.rd c u g (a.rd c u g h), fun c xs h => b.tup c xs (a.tup c xs h), fun c u g h => b.emp c u g (a.emp c u g h)⟩
abbrev ExtN := LamX.ExtN
theorem le_ext {H H' : Hp} (e : ExtN H H') : Le H H' := ⟨fun a u g h => by
  rcases h with h | ⟨o, h⟩
  · exact .inl (e a u h fun ps z => by subst z; exact g)
  · exact .inr ⟨o, e a _ h fun ps z => by cases z⟩, fun a xs h => e a _ h (fun _ z => by cases z), fun a u g h => e a u h fun ps z => by rcases g with rfl | rfl <;> cases z⟩
theorem mns_none {S : List Addr} {H : Hp} {a : Addr} (h : a ∈ S) : mns S H a = none := if_pos h
theorem mns_of {S : List Addr} {H : Hp} {a : Addr} (h : a ∉ S) : mns S H a = H a := if_neg h
theorem mns_some {S : List Addr} {H : Hp} {a : Addr} {u : HO} (h : mns S H a = some u) : H a = some u ∧ a ∉ S := by
  by_cases ha : a ∈ S
  · rw [mns_none ha] at h; cases h
  · rw [mns_of ha] at h; exact ⟨h, ha⟩
theorem rd_mns {S : List Addr} {H : Hp} {a : Addr} {u : HO} (h : Rd (mns S H) a u) : Rd H a u ∧ a ∉ S := by
  by_cases ha : a ∈ S
  · rcases h with h | ⟨o, h⟩ <;> rw [mns_none ha] at h <;> cases h
  · refine ⟨?_, ha⟩
    rcases h with h | ⟨o, h⟩ <;> rw [mns_of ha] at h
    · exact .inl h
    · exact .inr ⟨o, h⟩
theorem mns_rd {S : List Addr} {H : Hp} {a : Addr} {u : HO} (h : Rd H a u) (ha : a ∉ S) : Rd (mns S H) a u := by
  rcases h with h | ⟨o, h⟩
  · exact .inl ((mns_of ha).trans h)
  · exact .inr ⟨o, (mns_of ha).trans h⟩
theorem le_mns {S : List Addr} {H H' : Hp} (e : Le H H') : Le (mns S H) (mns S H') := ⟨fun a u g h => by
  obtain ⟨h1, h2⟩ := rd_mns h
  exact mns_rd (e.rd a u g h1) h2, fun a xs h => by
  obtain ⟨h1, h2⟩ := mns_some h
  exact (mns_of h2).trans (e.tup a xs h1), fun a u g h => by
  obtain ⟨h1, h2⟩ := mns_some h
  exact (mns_of h2).trans (e.emp a u g h1)⟩
theorem le_sub {S S' : List Addr} {H : Hp} (h : ∀ a ∈ S', a ∈ S) : Le (mns S H) (mns S' H) := ⟨fun a u g q => by
  obtain ⟨h1, h2⟩ := rd_mns q
  exact mns_rd h1 fun z => h2 (h a z), fun a xs q => by
  obtain ⟨h1, h2⟩ := mns_some q
  exact (mns_of fun z => h2 (h a z)).trans h1, fun a u g q => by
  obtain ⟨h1, h2⟩ := mns_some q
  exact (mns_of fun z => h2 (h a z)).trans h1⟩
theorem le_full {S : List Addr} {H : Hp} : Le (mns S H) H := ⟨fun a u g q => (rd_mns q).1, fun a xs q => (mns_some q).1, fun a u g q => (mns_some q).1⟩

/-! ### data -/
def kD : Key → D
  | .inl i => .int i
  | .inr x => .str x
mutual
/-- v stands for d -/
inductive Rp (K : PySem.W.Frag) (H : Hp) : V → D → Prop
  | non : Rp K H .non .none
  | bl (b : Bool) : Rp K H (.bl b) (.bool b)
  | int (i : Int) : Rp K H (.int i) (.int i)
  | str (x : Str) : Rp K H (.str x) (.str x)
  | lst {a : Addr} {xs : List V} {ds : List D} : SqL K H a xs → RpAll K H xs ds → Rp K H (.ref a) (.list ds)
  | tup {a : Addr} {xs : List V} {ds : List D} : H a = some (.tup xs) → RpAll K H xs ds → Rp K H (.ref a) (.tuple ds)
  | dk {a : Addr} {ks : List (Key × V)} {kvs : List (D × D)} : Rd H a (.dK ks) → (ks = [] → H a = some (.dK [])) → RpK K H ks kvs → Rp K H (.ref a) (.dict kvs)
  | dt {a : Addr} {ks : List (List Key × V)} {kvs : List (D × D)} : Rd H a (.dT ks) → (ks = [] → H a = some (.dT [])) → RpT K H ks kvs → Rp K H (.ref a) (.dict kvs)
inductive RpAll (K : PySem.W.Frag) (H : Hp) : List V → List D → Prop
  | nil : RpAll K H [] []
  | cons {v : V} {vs : List V} {d : D} {ds : List D} : Rp K H v d → RpAll K H vs ds → RpAll K H (v :: vs) (d :: ds)
inductive RpK (K : PySem.W.Frag) (H : Hp) : List (Key × V) → List (D × D) → Prop
  | nil : RpK K H [] []
  | cons {k : Key} {v : V} {ks : List (Key × V)} {d : D} {kvs : List (D × D)} : Rp K H v d → RpK K H ks kvs → RpK K H ((k, v) :: ks) ((kD k, d) :: kvs)
inductive RpT (K : PySem.W.Frag) (H : Hp) : List (List Key × V) → List (D × D) → Prop
  | nil : RpT K H [] []
  | cons {k : List Key} {v : V} {ks : List (List Key × V)} {d : D} {kvs : List (D × D)} : Rp K H v d → RpT K H ks kvs → RpT K H ((k, v) :: ks) ((.tuple (k.map kD), d) :: kvs)
end
section
variable {K : PySem.W.Frag} {H H' : Hp}
theorem sqL_le (e : Le H H') {a : Addr} {xs : List V} (h : SqL K H a xs) : SqL K H' a xs := by
  rcases h with h | h
  · exact .inl (e.rd a _ True.intro h)
  · exact .inr h
mutual
theorem Rp.le (e : Le H H') {v : V} {d : D} : Rp K H v d → Rp K H' v d
  | .non => .non
  | .bl b => .bl b
  | .int i => .int i
  | .str x => .str x
  | .lst h r => .lst (sqL_le e h) (RpAll.le e r)
  | .tup h r => .tup (e.tup _ _ h) (RpAll.le e r)
  | .dk h m r => .dk (e.rd _ _ True.intro h) (fun z => e.emp _ _ (.inl rfl) (m z)) (RpK.le e r)
  | .dt h m r => .dt (e.rd _ _ True.intro h) (fun z => e.emp _ _ (.inr rfl) (m z)) (RpT.le e r)
theorem RpAll.le (e : Le H H') {v : List V} {d : List D} : RpAll K H v d → RpAll K H' v d
  | .nil => .nil
  | .cons a b => .cons (Rp.le e a) (RpAll.le e b)
theorem RpK.le (e : Le H H') {v : List (Key × V)} {d : List (D × D)} : RpK K H v d → RpK K H' v d
  | .nil => .nil
  | .cons a b => .cons (Rp.le e a) (RpK.le e b)
theorem RpT.le (e : Le H H') {v : List (List Key × V)} {d : List (D × D)} : RpT K H v d → RpT K H' v d
  | .nil => .nil
  | .cons a b => .cons (Rp.le e a) (RpT.le e b)
end
theorem RpAll.length : ∀ {vs : List V} {ds : List D}, RpAll K H vs ds → vs.length = ds.length
  | _, _, .nil => rfl
  | _, _, .cons _ t => congrArg (· + 1) (RpAll.length t)
theorem RpK.length : ∀ {vs : List (Key × V)} {ds : List (D × D)}, RpK K H vs ds → vs.length = ds.length
  | _, _, .nil => rfl
  | _, _, .cons _ t => congrArg (· + 1) (RpK.length t)
theorem RpT.length : ∀ {vs : List (List Key × V)} {ds : List (D × D)}, RpT K H vs ds → vs.length = ds.length
  | _, _, .nil => rfl
  | _, _, .cons _ t => congrArg (· + 1) (RpT.length t)
theorem RpAll.get : ∀ {vs : List V} {ds : List D} {i : Nat} {d : D}, RpAll K H vs ds → ds[i]? = some d → ∃ v, vs[i]? = some v ∧ Rp K H v d
  | _, _, _, _, .nil, e => by simp at e
  | _, _, 0, _, .cons r _, e => by simp at e; subst e; exact ⟨_, rfl, r⟩
  | _, _, i + 1, d, .cons _ t, e => by
    obtain ⟨u, h1, h2⟩ := RpAll.get (i := i) (d := d) t (by simpa using e)
    exact ⟨u, by simpa using h1, h2⟩
theorem RpAll.getV : ∀ {vs : List V} {ds : List D} {i : Nat} {v : V}, RpAll K H vs ds → vs[i]? = some v → ∃ d, ds[i]? = some d ∧ Rp K H v d
  | _, _, _, _, .nil, e => by simp at e
  | _, _, 0, _, .cons r _, e => by simp at e; subst e; exact ⟨_, rfl, r⟩
  | _, _, i + 1, d, .cons _ t, e => by
    obtain ⟨u, h1, h2⟩ := RpAll.getV (i := i) (v := d) t (by simpa using e)
    exact ⟨u, by simpa using h1, h2⟩
theorem RpAll.append : ∀ {vs ws : List V} {ds es : List D}, RpAll K H vs ds → RpAll K H ws es → RpAll K H (vs ++ ws) (ds ++ es)
  | _, _, _, _, .nil, s => s
  | _, _, _, _, .cons r t, s => .cons r (RpAll.append t s)
theorem RpAll.take : ∀ {vs : List V} {ds : List D} (n : Nat), RpAll K H vs ds → RpAll K H (vs.take n) (ds.take n)
  | _, _, 0, _ => .nil
  | _, _, _ + 1, .nil => .nil
  | _, _, n + 1, .cons r t => .cons r (RpAll.take n t)
theorem RpAll.drop : ∀ {vs : List V} {ds : List D} (n : Nat), RpAll K H vs ds → RpAll K H (vs.drop n) (ds.drop n)
  | _, _, 0, r => r
  | _, _, _ + 1, .nil => .nil
  | _, _, n + 1, .cons _ t => RpAll.drop n t
theorem RpAll.reverse : ∀ {vs : List V} {ds : List D}, RpAll K H vs ds → RpAll K H vs.reverse ds.reverse
  | _, _, .nil => .nil
  | _, _, .cons r t => by
    rw [List.reverse_cons, List.reverse_cons]
    exact (RpAll.reverse t).append (.cons r .nil)
theorem RpAll.set {v : V} {d : D} (q : Rp K H v d) : ∀ {vs : List V} {ds : List D} (i : Nat), RpAll K H vs ds → RpAll K H (vs.set i v) (ds.set i d)
  | _, _, _, .nil => .nil
  | _, _, 0, .cons _ t => .cons q t
  | _, _, i + 1, .cons r t => .cons r (RpAll.set q i t)
theorem RpAll.ints (ns : List Int) : RpAll K H (ns.map V.int) (ns.map PyData.int) := by
  induction ns with
  | nil => exact .nil
  | cons n ns ih => exact .cons (.int n) ih
end

/-! ### the tables of code objects -/
def TabG (H : Hp) (P : Addr) : Prop := ∃ ps : Array Value, H P = some (.tbl ps) ∧ TriplesOk ps.toList
def Tabs (T : List Addr) (H : Hp) : Prop := ∀ P ∈ T, TabG H P
/-- all but the tables stays, the tables stay well-formed -/
structure Nxt (T : List Addr) (H H' : Hp) : Prop where
  ext : ExtN H H'
  tabs : Tabs T H'
  tbl : ∀ b ps, H b = some (.tbl ps) → ∃ ps', H' b = some (.tbl ps')
theorem Nxt.trans {T : List Addr} {H H1 H2 : Hp} (a : Nxt T H H1) (b : Nxt T H1 H2) : Nxt T H H2 := ⟨a.ext.trans b.ext, b.tabs, fun c ps e => by
  obtain ⟨ps', e'⟩ := a.tbl c ps e
  exact b.tbl c ps' e'⟩
theorem Nxt.refl {T : List Addr} {H : Hp} (h : Tabs T H) : Nxt T H H := ⟨LamX.ExtN.refl H, h, fun _ ps e => ⟨ps, e⟩⟩
/-- what is free was free -/
theorem Nxt.free {T : List Addr} {H H' : Hp} (n : Nxt T H H') {p : Addr} (h : H' p = none) : H p = none := by
  cases z : H p with
  | none => rfl
  | some o =>
    by_cases ht : ∃ ps, o = .tbl ps
    · obtain ⟨ps, rfl⟩ := ht
      obtain ⟨ps', e⟩ := n.tbl p ps z
      rw [h] at e; cases e
    · have := n.ext p o z fun ps e => ht ⟨ps, e⟩
      rw [h] at this; cases this
theorem Nxt.le {T : List Addr} {H H' : Hp} (a : Nxt T H H') : Le H H' := le_ext a.ext
theorem tabs_upd {T : List Addr} {H : Hp} {p : Addr} {o : HO} (t : Tabs T H) (h : ∀ ps, H p ≠ some (.tbl ps)) : Tabs T (upd H p o) := fun P hP => by
  obtain ⟨ps, e, k⟩ := t P hP
  refine ⟨ps, ?_, k⟩
  rw [upd_ne fun z => h ps (by rw [← z]; exact e)]
  exact e
theorem ext_new {H : Hp} {p : Addr} {o : HO} (h : H p = none) : ExtN H (upd H p o) := LamX.ExtN.of fun b x e => by
  rw [upd_ne (ne_of_none e h)]; exact e
theorem nxt_new {T : List Addr} {H : Hp} {p : Addr} {o : HO} (t : Tabs T H) (h : H p = none) : Nxt T H (upd H p o) := ⟨ext_new h, tabs_upd t (fun ps z => by rw [h] at z; cases z), fun b ps e => ⟨ps, (upd_ne (ne_of_none e h)).trans e⟩⟩

/-! ### names -/
/-- the list or dict at p, the def's own, stands for d; what it holds stays -/
inductive Own (K : PySem.W.Frag) (S : List Addr) (H : Hp) (p : Addr) : D → Prop
  | lst {xs : List V} {ds : List D} : H p = some (.lst xs) → RpAll K (mns S H) xs ds → Own K S H p (.list ds)
  | dk {ks : List (Key × V)} {kvs : List (D × D)} : H p = some (.dK ks) → RpK K (mns S H) ks kvs → Own K S H p (.dict kvs)
  | dt {ks : List (List Key × V)} {kvs : List (D × D)} : H p = some (.dT ks) → RpT K (mns S H) ks kvs → Own K S H p (.dict kvs)
def SlotOk (K : PySem.W.Frag) (S : List Addr) (H : Hp) (v : Option V) : Slot → Prop
  | .no => True
  | .va d => ∃ x, v = some x ∧ Rp K (mns S H) x d
  | .ow d => ∃ p, v = some (.ref p) ∧ p ∈ S ∧ Own K S H p d
/-- no table, no tuple -/
structure NT (o : HO) : Prop where
  tbl : ∀ ps, o ≠ .tbl ps
  tup : ∀ xs, o ≠ .tup xs
  frz : ∀ o' xs, o ≠ .frz o' (.tup xs)
theorem NT.lst (xs : List V) : NT (.lst xs) := ⟨fun _ z => (by cases z), fun _ z => (by cases z), fun _ _ z => (by cases z)⟩
theorem NT.dK (xs : List (Key × V)) : NT (.dK xs) := ⟨fun _ z => (by cases z), fun _ z => (by cases z), fun _ _ z => (by cases z)⟩
theorem NT.dT (xs : List (List Key × V)) : NT (.dT xs) := ⟨fun _ z => (by cases z), fun _ z => (by cases z), fun _ _ z => (by cases z)⟩
def Live (S : List Addr) (H : Hp) : Prop := ∀ a ∈ S, ∃ o, H a = some o ∧ NT o
theorem Live.ext {S : List Addr} {H H' : Hp} (l : Live S H) (e : ExtN H H') : Live S H' := fun a ha => by
  obtain ⟨o, h, n⟩ := l a ha
  exact ⟨o, e a o h n.tbl, n⟩
theorem Live.notup {S : List Addr} {H : Hp} (l : Live S H) : ∀ p ∈ S, ∀ u, Rd H p u → ¬ ∃ xs, u = .tup xs := fun p hp u r ⟨xs, e⟩ => by
  obtain ⟨o, h, n⟩ := l p hp
  subst e
  rcases r with r | ⟨o', r⟩
  · rw [h] at r; cases r; exact n.tup xs rfl
  · rw [h] at r; cases r; exact n.frz o' xs rfl
theorem Live.new {S : List Addr} {H : Hp} {p : Addr} (l : Live S H) (h : H p = none) : p ∉ S := fun z => by
  obtain ⟨o, e, _⟩ := l p z
  rw [h] at e; cases e
structure EnvOk (K : PySem.W.Frag) (T S : List Addr) (H : Hp) (σ : L2.St) (r : Env) : Prop where
  tabs : Tabs T H
  live : Live S H
  len : σ.length = r.length
  slot : ∀ (i : Nat) (v : Option V) (sl : Slot), σ[i]? = some v → r[i]? = some sl → SlotOk K S H v sl
  inj : ∀ (i j : Nat) (p : Addr) (d e : D), r[i]? = some (.ow d) → r[j]? = some (.ow e) → σ[i]? = some (some (.ref p)) → σ[j]? = some (some (.ref p)) → i = j
section
variable {K : PySem.W.Frag} {T S : List Addr} {H H' : Hp} {σ : L2.St} {r : Env}
theorem Own.nxt {p : Addr} {d : D} (e : ExtN H H') (o : Own K S H p d) : Own K S H' p d := by
  have l : Le (mns S H) (mns S H') := le_mns (le_ext e)
  cases o with
  | lst h q => exact .lst (e _ _ h fun _ z => by cases z) (q.le l)
  | dk h q => exact .dk (e _ _ h fun _ z => by cases z) (q.le l)
  | dt h q => exact .dt (e _ _ h fun _ z => by cases z) (q.le l)
theorem SlotOk.nxt {v : Option V} {sl : Slot} (e : ExtN H H') (o : SlotOk K S H v sl) : SlotOk K S H' v sl := by
  cases sl with
  | no => exact o
  | va d => obtain ⟨x, h, q⟩ := o; exact ⟨x, h, q.le (le_mns (le_ext e))⟩
  | ow d => obtain ⟨p, h, m, q⟩ := o; exact ⟨p, h, m, q.nxt e⟩
theorem EnvOk.nxt (o : EnvOk K T S H σ r) (n : Nxt T H H') : EnvOk K T S H' σ r :=
  ⟨n.tabs, o.live.ext n.ext, o.len, fun i v sl a b => (o.slot i v sl a b).nxt n.ext, o.inj⟩
theorem EnvOk.at (o : EnvOk K T S H σ r) {i : Nat} {sl : Slot} (h : r[i]? = some sl) : ∃ v, σ[i]? = some v ∧ SlotOk K S H v sl := by
  obtain ⟨hi, _⟩ := List.getElem?_eq_some_iff.mp h
  have hi' : i < σ.length := by rw [o.len]; exact hi
  exact ⟨σ[i], List.getElem?_eq_getElem hi', o.slot i _ _ (List.getElem?_eq_getElem hi') h⟩
/-- a name holds a datum that stays -/
theorem EnvOk.setVa (o : EnvOk K T S H σ r) {i : Nat} {x : V} {d : D} (q : Rp K (mns S H) x d) : EnvOk K T S H (σ.set i (some x)) (r.set i (.va d)) := by
  refine ⟨o.tabs, o.live, by rw [List.length_set, List.length_set]; exact o.len, fun j v sl a b => ?_, fun j k p e f a b c d' => ?_⟩
  · by_cases h : i = j
    · subst h
      obtain ⟨h1, e1⟩ := List.getElem?_eq_some_iff.mp a
      obtain ⟨h2, e2⟩ := List.getElem?_eq_some_iff.mp b
      rw [List.getElem_set_self] at e1 e2
      subst e1 e2
      exact ⟨x, rfl, q⟩
    · rw [List.getElem?_set_ne h] at a b
      exact o.slot j v sl a b
  · have hj : i ≠ j := fun z => by
      subst z
      obtain ⟨h2, e2⟩ := List.getElem?_eq_some_iff.mp a
      rw [List.getElem_set_self] at e2; cases e2
    have hk : i ≠ k := fun z => by
      subst z
      obtain ⟨h2, e2⟩ := List.getElem?_eq_some_iff.mp b
      rw [List.getElem_set_self] at e2; cases e2
    rw [List.getElem?_set_ne hj] at a c
    rw [List.getElem?_set_ne hk] at b d'
    exact o.inj j k p e f a b c d'
theorem wipe_len (σ : L2.St) (vs : List Nat) : (wipe σ vs).length = σ.length := wipe_length σ vs
theorem wipeE_len (r : Env) : ∀ vs : List Nat, (wipeE r vs).length = r.length
  | [] => rfl
  | v :: vs => by unfold wipeE; rw [List.length_set, wipeE_len r vs]
theorem EnvOk.setNo (o : EnvOk K T S H σ r) (i : Nat) (x : Option V) : EnvOk K T S H (σ.set i x) (r.set i .no) := by
  refine ⟨o.tabs, o.live, by rw [List.length_set, List.length_set]; exact o.len, fun j v sl a b => ?_, fun j k p e f a b c d' => ?_⟩
  · by_cases h : i = j
    · subst h
      obtain ⟨h2, e2⟩ := List.getElem?_eq_some_iff.mp b
      rw [List.getElem_set_self] at e2
      subst e2
      exact True.intro
    · rw [List.getElem?_set_ne h] at a b
      exact o.slot j v sl a b
  · have hj : i ≠ j := fun z => by
      subst z
      obtain ⟨h2, e2⟩ := List.getElem?_eq_some_iff.mp a
      rw [List.getElem_set_self] at e2; cases e2
    have hk : i ≠ k := fun z => by
      subst z
      obtain ⟨h2, e2⟩ := List.getElem?_eq_some_iff.mp b
      rw [List.getElem_set_self] at e2; cases e2
    rw [List.getElem?_set_ne hj] at a c
    rw [List.getElem?_set_ne hk] at b d'
    exact o.inj j k p e f a b c d'
theorem EnvOk.wipe (o : EnvOk K T S H σ r) : ∀ vs : List Nat, EnvOk K T S H (L2.wipe σ vs) (wipeE r vs)
  | [] => o
  | v :: vs => (EnvOk.wipe o vs).setNo v none
end
/-- what may be looked at: it stays, or it is an own list or dict -/
def RpB (K : PySem.W.Frag) (S : List Addr) (H : Hp) (v : V) (d : D) : Prop := Rp K (mns S H) v d ∨ ∃ p, v = .ref p ∧ Own K S H p d

/-! ### the judgements -/
def tDE (K : PySem.W.Frag) (T : List Addr) (f : E) : TE := fun σ H Q => ∃ S r d, EnvOk K T S H σ r ∧ f r = some d ∧ ∀ v H', Nxt T H H' → Rp K (mns S H') v d → Q v H'
def tDB (K : PySem.W.Frag) (T : List Addr) (f : E) : TE := fun σ H Q => ∃ S r d, EnvOk K T S H σ r ∧ f r = some d ∧ ∀ v H', Nxt T H H' → RpB K S H' v d → Q v H'
/-- a new list or dict, at a place that was free -/
def tDF (K : PySem.W.Frag) (T : List Addr) (f : E) : TE := fun σ H Q => ∃ S r d, EnvOk K T S H σ r ∧ f r = some d ∧ ∀ p H', H p = none → Nxt T H H' → Own K (p :: S) H' p d → Q (.ref p) H'
def tDT (K : PySem.W.Frag) (T : List Addr) (f : Dm.T) : TT := fun σ H Q => ∃ S r b, EnvOk K T S H σ r ∧ f r = some b ∧ ∀ H', Nxt T H H' → Q b H'
def tDA (K : PySem.W.Frag) (T : List Addr) (fs : List E) : TA := fun σ H Q => ∃ S r ds, EnvOk K T S H σ r ∧ argsE fs r = some ds ∧ ∀ vs H', Nxt T H H' → RpAll K (mns S H') vs ds → Q vs H'
inductive RpBs (K : PySem.W.Frag) (S : List Addr) (H : Hp) : List V → List D → Prop
  | nil : RpBs K S H [] []
  | cons {v : V} {vs : List V} {d : D} {ds : List D} : RpB K S H v d → RpBs K S H vs ds → RpBs K S H (v :: vs) (d :: ds)
def tDAB (K : PySem.W.Frag) (T : List Addr) (fs : List E) : TA := fun σ H Q => ∃ S r ds, EnvOk K T S H σ r ∧ argsE fs r = some ds ∧ ∀ vs H', Nxt T H H' → RpBs K S H' vs ds → Q vs H'
structure DE (X : Cx) (T : List Addr) (e : Expr) (f : E) : Prop where
  pe : PE X e (tDE X.K T f)
structure DB (X : Cx) (T : List Addr) (e : Expr) (f : E) : Prop where
  pe : PE X e (tDB X.K T f)
structure DF (X : Cx) (T : List Addr) (e : Expr) (f : E) : Prop where
  pe : PE X e (tDF X.K T f)
structure DT (X : Cx) (T : List Addr) (e : Expr) (f : Dm.T) : Prop where
  pt : PT X e (tDT X.K T f)
/-- and, or of tests -/
structure DW (X : Cx) (T : List Addr) (e : Expr) (f : Dm.T) : Prop where
  pw : PW X e (tDT X.K T f)
structure DA (X : Cx) (T : List Addr) (es : List Expr) (fs : List E) : Prop where
  pa : PA X es (tDA X.K T fs)
structure DAB (X : Cx) (T : List Addr) (es : List Expr) (fs : List E) : Prop where
  pa : PA X es (tDAB X.K T fs)

section
variable {X : Cx} {T : List Addr} {e : Expr} {f : E}
theorem PE.imp {t u : TE} (h : PE X e t) (i : ∀ σ H Q, u σ H Q → t σ H Q) : PE X e u := ⟨fun pins s σ H Q I q => h.run pins s σ H Q I (i σ H Q q)⟩
theorem PT.imp {t u : TT} (h : PT X e t) (i : ∀ σ H Q, u σ H Q → t σ H Q) : PT X e u := ⟨fun pins s σ H Q I q => h.run pins s σ H Q I (i σ H Q q)⟩
theorem PW.imp {t u : TT} (h : PW X e t) (i : ∀ σ H Q, u σ H Q → t σ H Q) : PW X e u := ⟨fun w pins s σ H Q I q => h.run w pins s σ H Q I (i σ H Q q)⟩
theorem PA.imp {es : List Expr} {t u : TA} (h : PA X es t) (i : ∀ σ H Q, u σ H Q → t σ H Q) : PA X es u := ⟨fun pos pins s σ H Q I q => h.run pos pins s σ H Q I (i σ H Q q)⟩
theorem PS.imp {st : Stmt} {t u : TS} (h : PS X st t) (i : ∀ D σ H, u D σ H → t D σ H) : PS X st u := ⟨fun pins s σ H D I q => h.run pins s σ H D I (i D σ H q)⟩
theorem PSs.imp {st : List Stmt} {t u : TS} (h : PSs X st t) (i : ∀ D σ H, u D σ H → t D σ H) : PSs X st u := ⟨fun pins s σ H D I q => h.run pins s σ H D I (i D σ H q)⟩
/-- an own list that is not told of any more -/
theorem Own.rp {K : PySem.W.Frag} {S S' : List Addr} {H : Hp} {p : Addr} {d : D} (o : Own K S H p d) (hp : p ∉ S') (h : ∀ a ∈ S', a ∈ S) : Rp K (mns S' H) (.ref p) d := by
  have l : Le (mns S H) (mns S' H) := le_sub h
  cases o with
  | lst e q => exact .lst (.inl (mns_rd (.inl e) hp)) (q.le l)
  | dk e q => exact .dk (mns_rd (.inl e) hp) (fun z => by subst z; exact (mns_of hp).trans e) (q.le l)
  | dt e q => exact .dt (mns_rd (.inl e) hp) (fun z => by subst z; exact (mns_of hp).trans e) (q.le l)
end
end Dm
end

section
set_option Elab.async false
set_option linter.all false
set_option autoImplicit true
set_option maxRecDepth 100000
set_option maxHeartbeats 1000000
/-! DExp: expressions and tests. -/
namespace Dm
open PySem PySem.Spec PyProof.Rows L2

/-! ### small things -/
theorem RpB.nxt {K : PySem.W.Frag} {T S : List Addr} {H H' : Hp} {v : V} {d : D} (n : Nxt T H H') (h : RpB K S H v d) : RpB K S H' v d := by
  rcases h with h | ⟨p, e, o⟩
  · exact .inl (h.le (le_mns n.le))
  · exact .inr ⟨p, e, o.nxt n.ext⟩
theorem RpBs.nxt {K : PySem.W.Frag} {T S : List Addr} {H H' : Hp} (n : Nxt T H H') : ∀ {vs : List V} {ds : List D}, RpBs K S H vs ds → RpBs K S H' vs ds
  | _, _, .nil => .nil
  | _, _, .cons a b => .cons (a.nxt n) (b.nxt n)
theorem Rp.nxt {K : PySem.W.Frag} {T S : List Addr} {H H' : Hp} {v : V} {d : D} (n : Nxt T H H') (h : Rp K (mns S H) v d) : Rp K (mns S H') v d := h.le (le_mns n.le)
/-- a list that may be looked at: it is read, its items stay -/
theorem RpB.list {K : PySem.W.Frag} {S : List Addr} {H : Hp} {v : V} {ds : List D} (h : RpB K S H v (.list ds)) : ∃ a xs, v = .ref a ∧ SqL K H a xs ∧ RpAll K (mns S H) xs ds := by
  rcases h with h | ⟨p, e, o⟩
  · cases h with
    | lst q r => exact ⟨_, _, rfl, sqL_le le_full q, r⟩
  · cases o with
    | lst q r => exact ⟨p, _, e, .inl (.inl q), r⟩
theorem RpB.tuple {K : PySem.W.Frag} {S : List Addr} {H : Hp} {v : V} {ds : List D} (h : RpB K S H v (.tuple ds)) : ∃ a xs, v = .ref a ∧ H a = some (.tup xs) ∧ RpAll K (mns S H) xs ds := by
  rcases h with h | ⟨p, e, o⟩
  · cases h with
    | tup q r => exact ⟨_, _, rfl, (mns_some q).1, r⟩
  · cases o
theorem RpB.int {K : PySem.W.Frag} {S : List Addr} {H : Hp} {v : V} {i : Int} (h : RpB K S H v (.int i)) : v = .int i := by
  rcases h with h | ⟨p, e, o⟩
  · cases h; rfl
  · cases o
theorem RpB.bool {K : PySem.W.Frag} {S : List Addr} {H : Hp} {v : V} {i : Bool} (h : RpB K S H v (.bool i)) : v = .bl i := by
  rcases h with h | ⟨p, e, o⟩
  · cases h; rfl
  · cases o
theorem RpB.str {K : PySem.W.Frag} {S : List Addr} {H : Hp} {v : V} {i : Str} (h : RpB K S H v (.str i)) : v = .str i := by
  rcases h with h | ⟨p, e, o⟩
  · cases h; rfl
  · cases o
theorem RpB.none {K : PySem.W.Frag} {S : List Addr} {H : Hp} {v : V} (h : RpB K S H v .none) : v = .non := by
  rcases h with h | ⟨p, e, o⟩
  · cases h; rfl
  · cases o
theorem RpB.dict {K : PySem.W.Frag} {S : List Addr} {H : Hp} {v : V} {kvs : List (D × D)} (h : RpB K S H v (.dict kvs)) :
    ∃ a, v = .ref a ∧ ((∃ ks, Rd H a (.dK ks) ∧ (ks = [] → H a = some (.dK [])) ∧ RpK K (mns S H) ks kvs) ∨ ∃ ks, Rd H a (.dT ks) ∧ (ks = [] → H a = some (.dT [])) ∧ RpT K (mns S H) ks kvs) := by
  rcases h with h | ⟨p, e, o⟩
  · cases h with
    | dk q m r => exact ⟨_, rfl, .inl ⟨_, le_full.rd _ _ True.intro q, fun z => (mns_some (m z)).1, r⟩⟩
    | dt q m r => exact ⟨_, rfl, .inr ⟨_, le_full.rd _ _ True.intro q, fun z => (mns_some (m z)).1, r⟩⟩
  · cases o with
    | dk q r => exact ⟨p, e, .inl ⟨_, .inl q, fun z => by subst z; exact q, r⟩⟩
    | dt q r => exact ⟨p, e, .inr ⟨_, .inl q, fun z => by subst z; exact q, r⟩⟩
/-- in the whole heap -/
theorem RpB.full {K : PySem.W.Frag} {S : List Addr} {H : Hp} {v : V} {d : D} (h : RpB K S H v d) : Rp K H v d := by
  rcases h with h | ⟨p, rfl, o⟩
  · exact h.le le_full
  · cases o with
    | lst q r => exact .lst (.inl (.inl q)) (r.le le_full)
    | dk q r => exact .dk (.inl q) (fun z => by subst z; exact q) (r.le le_full)
    | dt q r => exact .dt (.inl q) (fun z => by subst z; exact q) (r.le le_full)
/-! data without dicts -/
theorem layAll_cons {d : D} {ds : List D} (c : PyData.canLayAll0 (d :: ds) = true) : d.canLay0 = true ∧ PyData.canLayAll0 ds = true := by simpa [PyData.canLayAll0] using c
theorem fixAll_cons {d : D} {ds : List D} (c : fixed.fixedAll (d :: ds) = true) : fixed d = true ∧ fixed.fixedAll ds = true := by simpa [fixed.fixedAll] using c
mutual
theorem Rp.dp {K : PySem.W.Frag} {H : Hp} {v : V} {d : D} : Rp K H v d → d.canLay0 = true → Dp K H v d
  | .non, _ => .non
  | .bl b, _ => .bl b
  | .int i, _ => .int i
  | .str x, _ => .str x
  | .lst h r, c => .lst h (RpAll.dp r (by simpa [PyData.canLay0] using c))
  | .tup h r, c => .tup (.of h) (RpAll.dp r (by simpa [PyData.canLay0] using c))
  | .dk _ _ _, c => by simp [PyData.canLay0] at c
  | .dt _ _ _, c => by simp [PyData.canLay0] at c
theorem RpAll.dp {K : PySem.W.Frag} {H : Hp} {v : List V} {d : List D} : RpAll K H v d → PyData.canLayAll0 d = true → DpAll K H v d
  | .nil, _ => .nil
  | .cons a b, c => .cons (Rp.dp a (layAll_cons c).1) (RpAll.dp b (layAll_cons c).2)
end
theorem plain_lay {d : D} (h : plain d = true) : d.canLay0 = true := SeqAt.canLay_of_shaped h
theorem plain_depth {d : D} (h : plain d = true) : d.depth ≤ 64 := by
  have h2 : (d.canLay0 && decide (d.depth ≤ 64)) = true := h
  simp at h2
  exact h2.2
theorem RpB.dp {K : PySem.W.Frag} {S : List Addr} {H : Hp} {v : V} {d : D} (h : RpB K S H v d) (c : plain d = true) : Dp K H v d := h.full.dp (plain_lay c)
/-! what never changes stays whatever is told of -/
mutual
theorem Rp.stays {K : PySem.W.Frag} {S : List Addr} {H : Hp} (hS : ∀ p ∈ S, ∀ u, Rd H p u → ¬ ∃ xs, u = .tup xs) {v : V} {d : D} : Rp K H v d → fixed d = true → Rp K (mns S H) v d
  | .non, _ => .non
  | .bl b, _ => .bl b
  | .int i, _ => .int i
  | .str x, _ => .str x
  | .lst h r, c => by simp [fixed] at c
  | .tup h r, c => by
    refine .tup ?_ (RpAll.stays hS r (by simpa [fixed] using c))
    exact (mns_of fun z => hS _ z _ (.inl h) ⟨_, rfl⟩).trans h
  | .dk _ _ _, c => by simp [fixed] at c
  | .dt _ _ _, c => by simp [fixed] at c
theorem RpAll.stays {K : PySem.W.Frag} {S : List Addr} {H : Hp} (hS : ∀ p ∈ S, ∀ u, Rd H p u → ¬ ∃ xs, u = .tup xs) {v : List V} {d : List D} : RpAll K H v d → fixed.fixedAll d = true → RpAll K (mns S H) v d
  | .nil, _ => .nil
  | .cons a b, c => .cons (Rp.stays hS a (fixAll_cons c).1) (RpAll.stays hS b (fixAll_cons c).2)
end

section
variable {X : Cx} {T : List Addr} {e a b c : Expr} {f g h : E} {pos : Pos}

/-! ### names and constants -/
theorem e_var (i : Nat) {x : Str} (hN : X.N[i]? = some x := by rfl) (hv : Vis X.env.scope x := by first | exact Or.inl rfl | exact Or.inr (Or.inl rfl) | exact Or.inr (Or.inr rfl)) (hd : (x == ("__debug__" : Str)) = false := by decide)
    (hcd : (x == ("__classdict__" : Str)) = false := by decide) : DE X T (.Name x pos) (vE i) := ⟨PE.imp (pe_var hN hv hd hcd) fun σ H Q ⟨S, r, d, o, ef, q⟩ => by
  unfold vE at ef
  split at ef
  · rename_i d' hd'
    cases ef
    obtain ⟨v, e1, x, e2, rp⟩ := o.at hd'
    subst e2
    exact ⟨x, e1, q x H (Nxt.refl o.tabs) rp⟩
  · cases ef⟩
theorem e_own (i : Nat) {x : Str} (hN : X.N[i]? = some x := by rfl) (hv : Vis X.env.scope x := by first | exact Or.inl rfl | exact Or.inr (Or.inl rfl) | exact Or.inr (Or.inr rfl)) (hd : (x == ("__debug__" : Str)) = false := by decide)
    (hcd : (x == ("__classdict__" : Str)) = false := by decide) : DB X T (.Name x pos) (bE i) := ⟨PE.imp (pe_var hN hv hd hcd) fun σ H Q ⟨S, r, d, o, ef, q⟩ => by
  unfold bE at ef
  split at ef
  · rename_i d' hd'
    cases ef
    obtain ⟨v, e1, x, e2, rp⟩ := o.at hd'
    subst e2
    exact ⟨x, e1, q x H (Nxt.refl o.tabs) (.inl rp)⟩
  · rename_i d' hd'
    cases ef
    obtain ⟨v, e1, p, e2, hp, ow⟩ := o.at hd'
    subst e2
    exact ⟨.ref p, e1, q _ H (Nxt.refl o.tabs) (.inr ⟨p, rfl, ow⟩)⟩
  · cases ef⟩
theorem e_toB (ha : DE X T e f) : DB X T e f := ⟨PE.imp ha.pe fun σ H Q ⟨S, r, d, o, ef, q⟩ => ⟨S, r, d, o, ef, fun v H' n rp => q v H' n (.inl rp)⟩⟩
theorem e_varB (i : Nat) {x : Str} (hN : X.N[i]? = some x := by rfl) (hv : Vis X.env.scope x := by first | exact Or.inl rfl | exact Or.inr (Or.inl rfl) | exact Or.inr (Or.inr rfl)) (hd : (x == ("__debug__" : Str)) = false := by decide)
    (hcd : (x == ("__classdict__" : Str)) = false := by decide) : DB X T (.Name x pos) (vE i) := e_toB (e_var i hN hv hd hcd)
theorem e_new (ha : DF X T e f) : DE X T e f := ⟨PE.imp ha.pe fun σ H Q ⟨S, r, d, o, ef, q⟩ => ⟨S, r, d, o, ef, fun p H' hp n ow => q (.ref p) H' n (ow.rp (o.live.new hp) fun a m => List.mem_cons_of_mem _ m)⟩⟩
theorem e_const {d : D} {v : V} (hp : PE X e (tC v)) (r : ∀ K H, Rp K H v d) : DE X T e (kE d) := ⟨PE.imp hp fun σ H Q ⟨S, r', d', o, ef, q⟩ => by
  cases ef
  exact q v H (Nxt.refl o.tabs) (r _ _)⟩
theorem e_int {i : Int} {j : Nat} : DE X T (.Constant (.int i) j pos) (kE (.int i)) := e_const pe_int fun _ _ => .int i
theorem e_bl {i : Bool} {j : Nat} : DE X T (.Constant (.bool i) j pos) (kE (.bool i)) := e_const pe_bl fun _ _ => .bl i
theorem e_non {j : Nat} : DE X T (.Constant .none j pos) (kE .none) := e_const pe_non fun _ _ => .non
theorem e_str {i : Str} {j : Nat} : DE X T (.Constant (.str i) j pos) (kE (.str i)) := e_const pe_str fun _ _ => .str i

/-! ### two values -/
theorem opE_some {o : D → D → Option D} {f g : E} {r : Env} {d : D} (h : opE o f g r = some d) : ∃ x y, f r = some x ∧ g r = some y ∧ o x y = some d := by
  simp only [opE, Option.bind_eq_bind, Option.bind_eq_some_iff] at h
  obtain ⟨x, h1, y, h2, h3⟩ := h
  exact ⟨x, y, h1, h2, h3⟩
theorem unE_some {o : D → Option D} {f : E} {r : Env} {d : D} (h : unE o f r = some d) : ∃ x, f r = some x ∧ o x = some d := by
  simp only [unE, Option.bind_eq_bind, Option.bind_eq_some_iff] at h
  exact h
/-- an operator by values -/
def OpD (X : Cx) (T : List Addr) (m : Value → Value → Sem Value) (o : D → D → Option D) : Prop :=
  ∀ (pins : List (Addr × Obj)) (s : Shared) (σ : L2.St) (H : Hp) (S : List Addr) (x y : V) (v u : Value) (d e r : D) (Q : VK), Inv X pins σ H s → Tabs T H → Live S H → RelV x v → RelV y u → RpB X.K S H x d → RpB X.K S H y e → o d e = some r →
    (∀ z H', Nxt T H H' → Rp X.K (mns S H') z r → Q z H') → wpAny (model X.prog X.w) X.A (m v u) (EP X pins σ Q) X.xe s
theorem bin_some {ha : DB X T a f} {hb : DB X T b g} {pins : List (Addr × Obj)} {s : Shared} {σ : L2.St} {H : Hp} {S : List Addr} {r : Env} {dx dy : D} (I : Inv X pins σ H s) (o : EnvOk X.K T S H σ r) (ex : f r = some dx) (ey : g r = some dy)
    {α : Type} {Q : α → Shared → Prop} {m : Value → Value → Sem α}
    (hm : ∀ v u s2 x y H2, Inv X pins σ H2 s2 → Nxt T H H2 → RelV x v → RelV y u → RpB X.K S H2 x dx → RpB X.K S H2 y dy → wpAny (model X.prog X.w) X.A (m v u) Q X.xe s2) :
    wpAny (model X.prog X.w) X.A (eval a X.env) (fun v s₁ => wpAny (model X.prog X.w) X.A (eval b X.env) (fun u s₂ => wpAny (model X.prog X.w) X.A (m v u) Q X.xe s₂) X.xe s₁) X.xe s := by
  refine thn (ha.pe.run pins s σ H (fun x H1 => Nxt T H H1 ∧ RpB X.K S H1 x dx) I ⟨S, r, dx, o, ex, fun v H' n rp => ⟨n, rp⟩⟩) fun v s1 ⟨x, H1, I1, r1, n1, p1⟩ => ?_
  refine thn (hb.pe.run pins s1 σ H1 (fun y H2 => Nxt T H1 H2 ∧ RpB X.K S H2 y dy) I1 ⟨S, r, dy, o.nxt n1, ey, fun v H' n rp => ⟨n, rp⟩⟩) fun u s2 ⟨y, H2, I2, r2, n2, p2⟩ => ?_
  exact hm v u s2 x y H2 I2 (n1.trans n2) r1 r2 (p1.nxt n2) p2
theorem e_op {op : Operator} {o : D → D → Option D} (ho : OpD X T (binaryOp op) o) (ha : DB X T a f) (hb : DB X T b g) : DE X T (.BinOp a op b pos) (opE o f g) := by
  refine ⟨⟨fun pins s σ H Q I ⟨S, r, d, eo, ef, q⟩ => ?_⟩⟩
  obtain ⟨dx, dy, ex, ey, eo2⟩ := opE_some ef
  exact wpAny_BinOp (bin_some (ha := ha) (hb := hb) I eo ex ey fun v u s2 x y H2 I2 n rx ry px py => ho pins s2 σ H2 S x y v u dx dy d Q I2 n.tabs (eo.live.ext n.ext) rx ry px py eo2 fun z H' n2 rp => q z H' (n.trans n2) rp)
/-- operators of two ints -/
theorem opd_int {m : Value → Value → Sem Value} {C : Int → Int → Prop} {k : Int → Int → Int} {o : D → D → Option D} (ho : OpR X m (rI C fun i j => .int (k i j)))
    (h : ∀ d e r, o d e = some r → ∃ i j, d = .int i ∧ e = .int j ∧ C i j ∧ r = .int (k i j)) : OpD X T m o := fun pins s σ H S x y v u d e r Q I t l rx ry px py eo q => by
  obtain ⟨i, j, rfl, rfl, hc, rfl⟩ := h d e r eo
  obtain rfl := px.int
  obtain rfl := py.int
  exact ho pins s σ H _ _ v u Q I rx ry ⟨i, j, rfl, rfl, hc, q _ H (Nxt.refl t) (.int _)⟩
theorem o_sub : OpD X T (binaryOp .Sub) subD := fun pins s σ H S x y v u d e r Q I t l rx ry px py eo q => by
  unfold subD at eo
  split at eo
  · rename_i i j
    cases eo
    obtain rfl := px.int
    obtain rfl := py.int
    exact op_sub pins s σ H _ _ v u Q I rx ry ⟨i, j, rfl, rfl, q _ H (Nxt.refl t) (.int _)⟩
  · cases eo
theorem o_fdiv : OpD X T (binaryOp .FloorDiv) fdivD := opd_int op_fdivN fun d e r eo => by
  unfold fdivD at eo
  split at eo
  · rename_i i j
    split at eo
    · rename_i hc
      cases eo
      have hc := of_decide_eq_true hc
      exact ⟨i, j, rfl, rfl, hc, rfl⟩
    · cases eo
  · cases eo
theorem o_mod : OpD X T (binaryOp .Mod) modD := opd_int op_modN fun d e r eo => by
  unfold modD at eo
  split at eo
  · rename_i i j
    split at eo
    · rename_i hc
      cases eo
      have hc := of_decide_eq_true hc
      exact ⟨i, j, rfl, rfl, hc, rfl⟩
    · cases eo
  · cases eo
theorem o_pow : OpD X T (binaryOp .Pow) powD := opd_int op_pow fun d e r eo => by
  unfold powD at eo
  split at eo
  · rename_i i j
    split at eo
    · rename_i hc
      cases eo
      have hc := of_decide_eq_true hc
      exact ⟨i, j, rfl, rfl, hc, rfl⟩
    · cases eo
  · cases eo
theorem e_neg (ha : DE X T a f) : DE X T (.UnaryOp .USub a pos) (unE negD f) := ⟨PE.imp (pe_un un_neg ha.pe) fun σ H Q ⟨S, r, d, o, ef, q⟩ => by
  obtain ⟨x, e1, e2⟩ := unE_some ef
  refine ⟨S, r, x, o, e1, fun v H' n rp => ?_⟩
  unfold negD at e2
  split at e2
  · rename_i i
    cases e2
    cases rp
    exact ⟨i, rfl, q _ H' n (.int _)⟩
  · cases e2⟩
theorem lenOk_le {n : Nat} (h : lenOk n = true) : n ≤ sizeLine := by
  rw [sizeLine_eq]
  exact of_decide_eq_true h
theorem ref_ne {H : Hp} {p : Addr} {S : List Addr} (l : Live S H) (h : H p = none) : p ∉ S := l.new h
/-- a new tuple -/
theorem rp_newtup {T S : List Addr} {K : PySem.W.Frag} {H : Hp} {p : Addr} {xs : List V} {ds : List D} (t : Tabs T H) (l : Live S H) (hp : H p = none) (r : RpAll K (mns S H) xs ds) : Nxt T H (upd H p (.tup xs)) ∧ Rp K (mns S (upd H p (.tup xs))) (.ref p) (.tuple ds) :=
  ⟨nxt_new t hp, .tup ((mns_of (l.new hp)).trans upd_same) (r.le (le_mns (le_ext (ext_new hp))))⟩
/-- what stood ahead does not lean on what is new -/
theorem le_new {S : List Addr} {H H' : Hp} {p : Addr} (l : Live S H) (hp : H p = none) (e : Le H H') : Le (mns S H) (mns (p :: S) H') := ⟨fun a u g h => by
  obtain ⟨h1, h2⟩ := rd_mns h
  have hne : a ≠ p := by
    rcases h1 with h1 | ⟨o, h1⟩ <;> exact ne_of_none h1 hp
  refine mns_rd (e.rd a u g h1) fun z => ?_
  rcases List.mem_cons.mp z with z | z
  · exact hne z
  · exact h2 z, fun a xs h => by
  obtain ⟨h1, h2⟩ := mns_some h
  have hne : a ≠ p := ne_of_none h1 hp
  refine (mns_of fun z => ?_).trans (e.tup a xs h1)
  rcases List.mem_cons.mp z with z | z
  · exact hne z
  · exact h2 z, fun a u g h => by
  obtain ⟨h1, h2⟩ := mns_some h
  have hne : a ≠ p := ne_of_none h1 hp
  refine (mns_of fun z => ?_).trans (e.emp a u g h1)
  rcases List.mem_cons.mp z with z | z
  · exact hne z
  · exact h2 z⟩
theorem own_newlst {T S : List Addr} {K : PySem.W.Frag} {H : Hp} {p : Addr} {xs : List V} {ds : List D} (t : Tabs T H) (l : Live S H) (hp : H p = none) (r : RpAll K (mns S H) xs ds) : Nxt T H (upd H p (.lst xs)) ∧ Own K (p :: S) (upd H p (.lst xs)) p (.list ds) := by
  refine ⟨nxt_new t hp, .lst upd_same (r.le (le_new l hp (le_ext (ext_new hp))))⟩
theorem own_rp {T S : List Addr} {K : PySem.W.Frag} {H H' : Hp} {p : Addr} {d : D} (l : Live S H) (hp : H p = none) (o : Own K (p :: S) H' p d) : Rp K (mns S H') (.ref p) d := o.rp (l.new hp) fun a m => List.mem_cons_of_mem _ m

/-! ### what is equal, less, in -/
/-- a comparison by values -/
def CmpD (X : Cx) (T : List Addr) (op : CmpOp) (o : D → D → Option D) : Prop :=
  ∀ (pins : List (Addr × Obj)) (s : Shared) (σ : L2.St) (H : Hp) (S : List Addr) (x y : V) (v u : Value) (d e r : D) (Q : VK), Inv X pins σ H s → RelV x v → RelV y u → RpB X.K S H x d → RpB X.K S H y e → o d e = some r →
    (∀ c, r = .bool c → Q (.bl c) H) → wpAny (model X.prog X.w) X.A (compareOp op v u) (EP X pins σ Q) X.xe s
theorem c_eq (hu : X.A.units + 64 < cLine) : CmpD X T .Eq eqD := fun pins s σ H S x y v u d e r Q I rx ry px py eo q => by
  unfold eqD at eo
  split at eo
  · rename_i hp
    cases eo
    simp only [Bool.and_eq_true] at hp
    exact op_eqD hu pins s σ H x y v u Q I rx ry ⟨d, e, px.dp hp.1, py.dp hp.2, hp.1, hp.2, q _ rfl⟩
  · cases eo
theorem c_ne (hu : X.A.units + 64 < cLine) : CmpD X T .NotEq neD := fun pins s σ H S x y v u d e r Q I rx ry px py eo q => by
  unfold neD at eo
  split at eo
  · rename_i hp
    cases eo
    simp only [Bool.and_eq_true] at hp
    exact op_neD hu pins s σ H x y v u Q I rx ry ⟨d, e, px.dp hp.1, py.dp hp.2, hp.1, hp.2, q _ rfl⟩
  · cases eo
theorem isNone_ne {d : D} (h : isNone d = false) : d ≠ .none := fun e => by subst e; cases h
theorem ordOk_all {d e : D} (h : ordOk d e = true) : PySem.W.alike d e = true ∧ d ≠ .none ∧ plain d = true ∧ plain e = true := by
  unfold ordOk at h
  simp only [Bool.and_eq_true, Bool.not_eq_true'] at h
  exact ⟨h.1.1.1, isNone_ne h.1.1.2, h.1.2, h.2⟩
theorem min_le64 {d e : D} (h : plain d = true) : min d.depth e.depth ≤ 64 := Nat.le_trans (Nat.min_le_left _ _) (plain_depth h)
theorem c_lt (hu : X.A.units + 64 < cLine) : CmpD X T .Lt ltD := fun pins s σ H S x y v u d e r Q I rx ry px py eo q => by
  unfold ltD at eo
  split at eo
  · rename_i hp
    cases eo
    obtain ⟨h1, h2, h3, h4⟩ := ordOk_all hp
    obtain ⟨as, r1⟩ := Dp.reads I d x v (px.dp h3) rx
    obtain ⟨bs, r2⟩ := Dp.reads I e y u (py.dp h4) ry
    exact PySem.W.lt_data r1 r2 h1 h2 (by have := min_le64 (e := e) h3; omega) ⟨.bl _, H, I, rfl, q _ rfl⟩
  · cases eo
theorem c_gt (hu : X.A.units + 64 < cLine) : CmpD X T .Gt gtD := fun pins s σ H S x y v u d e r Q I rx ry px py eo q => by
  unfold gtD at eo
  split at eo
  · rename_i hp
    cases eo
    obtain ⟨h1, h2, h3, h4⟩ := ordOk_all hp
    obtain ⟨as, r1⟩ := Dp.reads I d x v (px.dp h3) rx
    obtain ⟨bs, r2⟩ := Dp.reads I e y u (py.dp h4) ry
    exact PySem.W.gt_data r1 r2 h1 h2 (by have := min_le64 (e := e) h3; omega) ⟨.bl _, H, I, rfl, q _ rfl⟩
  · cases eo
theorem c_le (hu : X.A.units + 64 < cLine) : CmpD X T .LtE leD := fun pins s σ H S x y v u d e r Q I rx ry px py eo q => by
  unfold leD at eo
  split at eo
  · rename_i hp
    cases eo
    obtain ⟨h1, h2, h3, h4⟩ := ordOk_all hp
    obtain ⟨as, r1⟩ := Dp.reads I d x v (px.dp h3) rx
    obtain ⟨bs, r2⟩ := Dp.reads I e y u (py.dp h4) ry
    exact PySem.W.le_data r1 r2 h1 h2 (by have := min_le64 (e := e) h3; omega) ⟨.bl _, H, I, rfl, q _ rfl⟩
  · cases eo
theorem c_ge (hu : X.A.units + 64 < cLine) : CmpD X T .GtE geD := fun pins s σ H S x y v u d e r Q I rx ry px py eo q => by
  unfold geD at eo
  split at eo
  · rename_i hp
    cases eo
    obtain ⟨h1, h2, h3, h4⟩ := ordOk_all hp
    obtain ⟨as, r1⟩ := Dp.reads I d x v (px.dp h3) rx
    obtain ⟨bs, r2⟩ := Dp.reads I e y u (py.dp h4) ry
    exact PySem.W.ge_data r1 r2 h1 h2 (by have := min_le64 (e := e) h3; omega) ⟨.bl _, H, I, rfl, q _ rfl⟩
  · cases eo
/-- its answer is a truth value -/
def BoolO (o : D → D → Option D) : Prop := ∀ d e r, o d e = some r → ∃ c, r = .bool c
theorem b_eq : BoolO eqD := fun d e r h => by unfold eqD at h; split at h <;> cases h; exact ⟨_, rfl⟩
theorem b_ne : BoolO neD := fun d e r h => by unfold neD at h; split at h <;> cases h; exact ⟨_, rfl⟩
theorem b_lt : BoolO ltD := fun d e r h => by unfold ltD at h; split at h <;> cases h; exact ⟨_, rfl⟩
theorem b_gt : BoolO gtD := fun d e r h => by unfold gtD at h; split at h <;> cases h; exact ⟨_, rfl⟩
theorem b_le : BoolO leD := fun d e r h => by unfold leD at h; split at h <;> cases h; exact ⟨_, rfl⟩
theorem b_ge : BoolO geD := fun d e r h => by unfold geD at h; split at h <;> cases h; exact ⟨_, rfl⟩
theorem e_cmp {op : CmpOp} {o : D → D → Option D} (ho : CmpD X T op o) (hb2 : BoolO o) (ha : DB X T a f) (hb : DB X T b g) (hm : behindInMarks op b = false) : DE X T (.Compare a [op] [b] pos) (opE o f g) := by
  refine ⟨⟨fun pins s σ H Q I ⟨S, r, d, eo, ef, q⟩ => ?_⟩⟩
  obtain ⟨dx, dy, ex, ey, eo2⟩ := opE_some ef
  exact wpAny_Compare1 (bin_some (ha := ha) (hb := hb) I eo ex ey fun v u s2 x y H2 I2 n rx ry px py => ho pins s2 σ H2 S x y v u dx dy d Q I2 rx ry px py eo2 fun c ec => q _ H2 n (by rw [ec]; exact .bl c)) hm
theorem trT_some {f : E} {r : Env} {k : Bool} (h : trT f r = some k) : ∃ x, f r = some x ∧ truD x = some k := by
  simp only [trT, Option.bind_eq_bind, Option.bind_eq_some_iff] at h
  exact h
theorem t_cmp {op : CmpOp} {o : D → D → Option D} (ho : CmpD X T op o) (hb2 : BoolO o) (ha : DB X T a f) (hb : DB X T b g) (hm : behindInMarks op b = false) : DT X T (.Compare a [op] [b] pos) (trT (opE o f g)) := by
  refine ⟨⟨fun pins s σ H Q I ⟨S, r, k, eo, ef, q⟩ => ?_⟩⟩
  obtain ⟨d, ef2, et⟩ := trT_some ef
  obtain ⟨dx, dy, ex, ey, eo2⟩ := opE_some ef2
  obtain ⟨c, rfl⟩ := hb2 _ _ _ eo2
  have ek : c = k := Option.some.inj et
  subst ek
  refine wpAny_isTrue_Compare1 (thn (ha.pe.run pins s σ H (fun x H1 => Nxt T H H1 ∧ RpB X.K S H1 x dx) I ⟨S, r, dx, eo, ex, fun v H' n rp => ⟨n, rp⟩⟩) fun v s1 ⟨x, H1, I1, r1, n1, p1⟩ =>
    thn (hb.pe.run pins s1 σ H1 (fun y H2 => Nxt T H1 H2 ∧ RpB X.K S H2 y dy) I1 ⟨S, r, dy, eo.nxt n1, ey, fun v H' n rp => ⟨n, rp⟩⟩) fun u s2 ⟨y, H2, I2, r2, n2, p2⟩ =>
    thn (ho pins s2 σ H2 S x y v u dx dy _ (fun z H3 => z = .bl c ∧ H3 = H2) I2 r1 r2 (p1.nxt n2) p2 eo2 fun c' e' => ⟨by cases e'; rfl, rfl⟩) fun w s3 ⟨z, H3, I3, r3, e1, e2⟩ => ?_) hm
  subst e1 e2
  cases r3
  exact wpAny_truthy_bool ⟨_, I3, q _ (n1.trans n2)⟩
/-- is None -/
theorem rp_isNone {K : PySem.W.Frag} {S : List Addr} {H : Hp} {x : V} {d : D} (h : RpB K S H x d) : decide (x = .non) = isNone d := by
  rcases h with h | ⟨p, rfl, o⟩
  · cases h <;> rfl
  · cases o <;> rfl
theorem e_isN {j : Nat} {p2 : Pos} (ha : DB X T a f) : DE X T (.Compare a [.Is] [.Constant .none j p2] pos) (unE isND f) := ⟨PE.imp (pe_cmp (pc_isN ha.pe) (by rfl)) fun σ H Q ⟨S, r, d, o, ef, q⟩ => by
  obtain ⟨x, e1, e2⟩ := unE_some ef
  cases e2
  exact ⟨S, r, x, o, e1, fun v H' n rp => by show Q (.bl _) H'; rw [rp_isNone rp]; exact q _ H' n (.bl _)⟩⟩
theorem e_notN {j : Nat} {p2 : Pos} (ha : DB X T a f) : DE X T (.Compare a [.IsNot] [.Constant .none j p2] pos) (unE notND f) := ⟨PE.imp (pe_cmp (pc_notN ha.pe) (by rfl)) fun σ H Q ⟨S, r, d, o, ef, q⟩ => by
  obtain ⟨x, e1, e2⟩ := unE_some ef
  cases e2
  exact ⟨S, r, x, o, e1, fun v H' n rp => by show Q (.bl (!_)) H'; rw [rp_isNone rp]; exact q _ H' n (.bl _)⟩⟩
theorem t_isN {j : Nat} {p2 : Pos} (ha : DB X T a f) : DT X T (.Compare a [.Is] [.Constant .none j p2] pos) (trT (unE isND f)) := ⟨PT.imp (pt_cmp (pc_isN ha.pe) (by rfl)) fun σ H Q ⟨S, r, k, o, ef, q⟩ => by
  obtain ⟨d, ef2, et⟩ := trT_some ef
  obtain ⟨x, e1, e2⟩ := unE_some ef2
  cases e2
  exact ⟨S, r, x, o, e1, fun v H' n rp => ⟨_, rfl, by rw [rp_isNone rp]; exact (Option.some.inj et) ▸ q H' n⟩⟩⟩
theorem t_notN {j : Nat} {p2 : Pos} (ha : DB X T a f) : DT X T (.Compare a [.IsNot] [.Constant .none j p2] pos) (trT (unE notND f)) := ⟨PT.imp (pt_cmp (pc_notN ha.pe) (by rfl)) fun σ H Q ⟨S, r, k, o, ef, q⟩ => by
  obtain ⟨d, ef2, et⟩ := trT_some ef
  obtain ⟨x, e1, e2⟩ := unE_some ef2
  cases e2
  exact ⟨S, r, x, o, e1, fun v H' n rp => ⟨_, rfl, by rw [rp_isNone rp]; exact (Option.some.inj et) ▸ q H' n⟩⟩⟩

/-! ### truth, and, or, not -/
theorem tru_rp {K : PySem.W.Frag} {S : List Addr} {H : Hp} {x : V} {d : D} {k : Bool} (h : RpB K S H x d) (e : truD d = some k) : TruV K x H k := by
  cases d with
  | none => rw [h.none]; simp [truD] at e; exact e
  | bool b => rw [h.bool]; simp [truD] at e; exact e.symm
  | int i => rw [h.int]; simp only [truD, Option.some.injEq] at e; exact e.symm
  | str x =>
    rw [h.str]
    simp only [truD] at e
    by_cases hl : x.length ≤ sizeLine
    · rw [if_pos hl] at e
      refine ⟨hl, ?_⟩
      rw [← Option.some.inj e, Bool.eq_iff_iff, bne_iff_ne, bne_iff_ne]
      omega
    · rw [if_neg hl] at e; cases e
  | list ds =>
    obtain ⟨a, xs, rfl, q, r⟩ := h.list
    simp only [truD, Option.some.injEq] at e
    refine .inl ⟨xs, q, ?_⟩
    rw [← e]
    cases r <;> rfl
  | tuple ds =>
    obtain ⟨a, xs, rfl, q, r⟩ := h.tuple
    simp only [truD, Option.some.injEq] at e
    refine .inr (.inl ⟨xs, .of q, ?_⟩)
    rw [← e]
    cases r <;> rfl
  | dict kvs => simp [truD] at e
/-- the truth of what is known -/
theorem tru_at {pins : List (Addr × Obj)} {s : Shared} {σ : L2.St} {H : Hp} {S : List Addr} {x : V} {v : Value} {d : D} {k : Bool} {Q : Bool → Hp → Prop} (I : Inv X pins σ H s) (rx : RelV x v) (h : RpB X.K S H x d) (e : truD d = some k) (q : Q k H) :
    wpAny (model X.prog X.w) X.A (truthy v) (TP X pins σ Q) X.xe s := by
  exact tru_ok pins s σ H x v Q I rx ⟨k, tru_rp h e, q⟩
end
end Dm
end

section
set_option Elab.async false
set_option linter.all false
set_option autoImplicit true
set_option maxRecDepth 100000
set_option maxHeartbeats 1000000
/-! DExp2: truth, and, or, displays, arguments, calls of defs, places, slices, what is in. -/
namespace Dm
open PySem PySem.Spec PyProof.Rows L2
section
variable {X : Cx} {T : List Addr} {e a b c : Expr} {es rest : List Expr} {f g h : E} {fs : List E} {pos : Pos} {u v w : Dm.T}

/-! ### tests -/
theorem t_tru (ha : DB X T a f) (he : ∀ whole, isTrue a X.env whole = (do let v ← whole; standAt a.pos; holding [v] (truthy v)) := by intro _; rfl) : DT X T a (trT f) := by
  refine ⟨⟨fun pins s σ H Q I ⟨S, r, k, eo, ef, q⟩ => ?_⟩⟩
  obtain ⟨d, ef2, et⟩ := trT_some ef
  refine isTrue_plain (thn (ha.pe.run pins s σ H (fun x H1 => Nxt T H H1 ∧ RpB X.K S H1 x d) I ⟨S, r, d, eo, ef2, fun v H' n rp => ⟨n, rp⟩⟩) fun v s1 ⟨x, H1, I1, r1, n1, p1⟩ => tru_at I1 r1 p1 et (q H1 n1)) (he _)
theorem andT_some {t u : Dm.T} {r : Env} {k : Bool} (h : andT t u r = some k) : ∃ x, t r = some x ∧ if x = true then u r = some k else k = false := by
  simp only [andT, Option.bind_eq_bind, Option.bind_eq_some_iff] at h
  obtain ⟨x, h1, h2⟩ := h
  refine ⟨x, h1, ?_⟩
  cases x <;> simp at h2 ⊢ <;> first | exact h2 | exact h2.symm
theorem orT_some {t u : Dm.T} {r : Env} {k : Bool} (h : orT t u r = some k) : ∃ x, t r = some x ∧ if x = true then k = true else u r = some k := by
  simp only [orT, Option.bind_eq_bind, Option.bind_eq_some_iff] at h
  obtain ⟨x, h1, h2⟩ := h
  refine ⟨x, h1, ?_⟩
  cases x <;> simp at h2 ⊢ <;> first | exact h2 | exact h2.symm
theorem t_and1 (ha : DT X T a u) : DW X T (.BoolOp .And [a] pos) u := ⟨pw_and1 ha.pt⟩
theorem t_or1 (ha : DT X T a u) : DW X T (.BoolOp .Or [a] pos) u := ⟨pw_or1 ha.pt⟩
theorem t_and (ha : DT X T a u) (hb : DW X T (.BoolOp .And (b :: rest) pos) v) : DW X T (.BoolOp .And (a :: b :: rest) pos) (andT u v) := ⟨PW.imp (pw_and ha.pt hb.pw) fun σ H Q ⟨S, r, k, o, ef, q⟩ => by
  obtain ⟨x, e1, e2⟩ := andT_some ef
  refine ⟨S, r, x, o, e1, fun H1 n1 => ?_⟩
  cases x with
  | true => rw [if_pos rfl] at e2 ⊢; exact ⟨S, r, k, o.nxt n1, e2, fun H2 n2 => q H2 (n1.trans n2)⟩
  | false => rw [if_neg Bool.false_ne_true] at e2 ⊢; subst e2; exact q H1 n1⟩
theorem t_or (ha : DT X T a u) (hb : DW X T (.BoolOp .Or (b :: rest) pos) v) : DW X T (.BoolOp .Or (a :: b :: rest) pos) (orT u v) := ⟨PW.imp (pw_or ha.pt hb.pw) fun σ H Q ⟨S, r, k, o, ef, q⟩ => by
  obtain ⟨x, e1, e2⟩ := orT_some ef
  refine ⟨S, r, x, o, e1, fun H1 n1 => ?_⟩
  cases x with
  | false => rw [if_neg Bool.false_ne_true] at e2 ⊢; exact ⟨S, r, k, o.nxt n1, e2, fun H2 n2 => q H2 (n1.trans n2)⟩
  | true => rw [if_pos rfl] at e2 ⊢; subst e2; exact q H1 n1⟩
theorem t_bool (ha : DW X T e u) : DT X T e u := ⟨ha.pw.pt⟩
theorem t_not (ha : DT X T a u) : DT X T (.UnaryOp .Not a pos) (notT u) := ⟨PT.imp (pt_not ha.pt) fun σ H Q ⟨S, r, k, o, ef, q⟩ => by
  simp only [notT, Option.bind_eq_bind, Option.bind_eq_some_iff] at ef
  obtain ⟨x, e1, e2⟩ := ef
  exact ⟨S, r, x, o, e1, fun H1 n1 => by cases e2; exact q H1 n1⟩⟩

/-! ### and, or, not as values -/
theorem tru_val {pins : List (Addr × Obj)} {s : Shared} {σ : L2.St} {H : Hp} {S : List Addr} {x : V} {v : Value} {d : D} {k : Bool} {Q : Bool → Shared → Prop} (I : Inv X pins σ H s) (rx : RelV x v) (h : RpB X.K S H x d) (e : truD d = some k)
    (q : ∀ s', Inv X pins σ H s' → Q k s') : wpAny (model X.prog X.w) X.A (truthy v) Q X.xe s :=
  thn (tru_at (Q := fun c H' => c = k ∧ H' = H) I rx h e ⟨rfl, rfl⟩) fun c s' ⟨H', I', e1, e2⟩ => by subst e1 e2; exact q s' I'
theorem e_and1 (ha : DE X T a f) : DE X T (.BoolOp .And [a] pos) f := ⟨pe_one ha.pe⟩
theorem e_or1 (ha : DE X T a f) : DE X T (.BoolOp .Or [a] pos) f := ⟨pe_one ha.pe⟩
theorem e_and (ha : DE X T a f) (hb : DE X T (.BoolOp .And (b :: rest) pos) g) : DE X T (.BoolOp .And (a :: b :: rest) pos) (andE f g) := by
  refine ⟨⟨fun pins s σ H Q I ⟨S, r, d, eo, ef, q⟩ => ?_⟩⟩
  simp only [andE, Option.bind_eq_bind, Option.bind_eq_some_iff] at ef
  obtain ⟨x, e1, k, e2, e3⟩ := ef
  refine BoolOp_and (thn (ha.pe.run pins s σ H (fun y H1 => Nxt T H H1 ∧ Rp X.K (mns S H1) y x) I ⟨S, r, x, eo, e1, fun v H' n rp => ⟨n, rp⟩⟩) fun v s1 ⟨y, H1, I1, r1, n1, p1⟩ => ?_)
  refine tru_val I1 r1 (.inl p1) e2 fun s2 I2 => ?_
  cases k with
  | true => exact hb.pe.run pins s2 σ H1 Q I2 ⟨S, r, d, eo.nxt n1, by simpa using e3, fun v H' n rp => q v H' (n1.trans n) rp⟩
  | false =>
    have : x = d := by simpa using e3
    subst this
    exact ⟨y, H1, I2, r1, q y H1 n1 p1⟩
theorem e_or (ha : DE X T a f) (hb : DE X T (.BoolOp .Or (b :: rest) pos) g) : DE X T (.BoolOp .Or (a :: b :: rest) pos) (orE f g) := by
  refine ⟨⟨fun pins s σ H Q I ⟨S, r, d, eo, ef, q⟩ => ?_⟩⟩
  simp only [orE, Option.bind_eq_bind, Option.bind_eq_some_iff] at ef
  obtain ⟨x, e1, k, e2, e3⟩ := ef
  refine BoolOp_or (thn (ha.pe.run pins s σ H (fun y H1 => Nxt T H H1 ∧ Rp X.K (mns S H1) y x) I ⟨S, r, x, eo, e1, fun v H' n rp => ⟨n, rp⟩⟩) fun v s1 ⟨y, H1, I1, r1, n1, p1⟩ => ?_)
  refine tru_val I1 r1 (.inl p1) e2 fun s2 I2 => ?_
  cases k with
  | false => exact hb.pe.run pins s2 σ H1 Q I2 ⟨S, r, d, eo.nxt n1, by simpa using e3, fun v H' n rp => q v H' (n1.trans n) rp⟩
  | true =>
    have : x = d := by simpa using e3
    subst this
    exact ⟨y, H1, I2, r1, q y H1 n1 p1⟩
theorem e_not (ha : DB X T a f) : DE X T (.UnaryOp .Not a pos) (notE f) := by
  refine ⟨⟨fun pins s σ H Q I ⟨S, r, d, eo, ef, q⟩ => ?_⟩⟩
  simp only [notE, Option.bind_eq_bind, Option.bind_eq_some_iff] at ef
  obtain ⟨x, e1, k, e2, e3⟩ := ef
  cases e3
  refine UnaryOp_ (thn (ha.pe.run pins s σ H (fun y H1 => Nxt T H H1 ∧ RpB X.K S H1 y x) I ⟨S, r, x, eo, e1, fun v H' n rp => ⟨n, rp⟩⟩) fun v s1 ⟨y, H1, I1, r1, n1, p1⟩ => ?_)
  exact not_of (tru_val I1 r1 p1 e2 fun s2 I2 => ⟨.bl (!k), H1, I2, rfl, q _ H1 n1 (.bl _)⟩)
theorem ifE_some {t : Dm.T} {f g : E} {r : Env} {d : D} (h : ifE t f g r = some d) : ∃ k, t r = some k ∧ (if k = true then f r else g r) = some d := by
  simp only [ifE, Option.bind_eq_bind, Option.bind_eq_some_iff] at h
  exact h
theorem e_if (hc : DT X T c u) (ha : DE X T a f) (hb : DE X T b g) : DE X T (.IfExp c a b pos) (ifE u f g) := ⟨PE.imp (pe_ifExp hc.pt ha.pe hb.pe) fun σ H Q ⟨S, r, d, o, ef, q⟩ => by
  obtain ⟨k, e1, e2⟩ := ifE_some ef
  refine ⟨S, r, k, o, e1, fun H1 n1 => ?_⟩
  cases k with
  | true => rw [if_pos rfl] at e2 ⊢; exact ⟨S, r, d, o.nxt n1, e2, fun v H2 n2 rp => q v H2 (n1.trans n2) rp⟩
  | false => rw [if_neg Bool.false_ne_true] at e2 ⊢; exact ⟨S, r, d, o.nxt n1, e2, fun v H2 n2 rp => q v H2 (n1.trans n2) rp⟩⟩
theorem e_ifB (hc : DT X T c u) (ha : DB X T a f) (hb : DB X T b g) : DB X T (.IfExp c a b pos) (ifE u f g) := ⟨PE.imp (pe_ifExp hc.pt ha.pe hb.pe) fun σ H Q ⟨S, r, d, o, ef, q⟩ => by
  obtain ⟨k, e1, e2⟩ := ifE_some ef
  refine ⟨S, r, k, o, e1, fun H1 n1 => ?_⟩
  cases k with
  | true => rw [if_pos rfl] at e2 ⊢; exact ⟨S, r, d, o.nxt n1, e2, fun v H2 n2 rp => q v H2 (n1.trans n2) rp⟩
  | false => rw [if_neg Bool.false_ne_true] at e2 ⊢; exact ⟨S, r, d, o.nxt n1, e2, fun v H2 n2 rp => q v H2 (n1.trans n2) rp⟩⟩

/-! ### chains -/
theorem lk {op : CmpOp} {o : D → D → Option D} (ho : CmpD X T op o) (hb : DB X T b g) {pins : List (Addr × Obj)} {s1 : Shared} {σ : L2.St} {H1 : Hp} {S : List Addr} {r : Env} {z : V} {v : Value} {x y : D} {kb : Bool}
    {R : Value → Value → Bool → Shared → Prop} (I1 : Inv X pins σ H1 s1) (o1 : EnvOk X.K T S H1 σ r) (r1 : RelV z v) (p1 : RpB X.K S H1 z x) (e2 : g r = some y) (e3 : o x y = some (.bool kb))
    (k : ∀ u s3 z2 H2, Inv X pins σ H2 s3 → Nxt T H1 H2 → RelV z2 u → RpB X.K S H2 z2 y → R u (.bool kb) kb s3) :
    wpAny (model X.prog X.w) X.A (eval b X.env) (fun u s₁ => wpAny (model X.prog X.w) X.A (compareOp op v u) (fun c s₂ => wpAny (model X.prog X.w) X.A (truthy c) (fun t s₃ => R u c t s₃) X.xe s₂) X.xe s₁) X.xe s1 := by
  refine thn (hb.pe.run pins s1 σ H1 (fun z H2 => Nxt T H1 H2 ∧ RpB X.K S H2 z y) I1 ⟨S, r, y, o1, e2, fun v H' n rp => ⟨n, rp⟩⟩) fun u s2 ⟨z2, H2, I2, r2, n2, p2⟩ => ?_
  refine thn (ho pins s2 σ H2 S z z2 v u x y _ (fun w H3 => w = .bl kb ∧ H3 = H2) I2 r1 r2 (p1.nxt n2) p2 e3 fun c' e' => ⟨by cases e'; rfl, rfl⟩) fun dd s3 ⟨w, H3, I3, r3, ew, eh⟩ => ?_
  subst ew eh
  cases r3
  exact wpAny_truthy_bool (k u s3 z2 _ I3 n2 r2 p2)
theorem lk1 {op : CmpOp} {o : D → D → Option D} (ho : CmpD X T op o) (hb : DB X T b g) {pins : List (Addr × Obj)} {s1 : Shared} {σ : L2.St} {H1 : Hp} {S : List Addr} {r : Env} {z : V} {v : Value} {x y : D} {kb : Bool}
    {Q : Value → Shared → Prop} (I1 : Inv X pins σ H1 s1) (o1 : EnvOk X.K T S H1 σ r) (r1 : RelV z v) (p1 : RpB X.K S H1 z x) (e2 : g r = some y) (e3 : o x y = some (.bool kb))
    (k : ∀ s3 H2, Inv X pins σ H2 s3 → Nxt T H1 H2 → Q (.bool kb) s3) :
    wpAny (model X.prog X.w) X.A (eval b X.env) (fun u s₁ => wpAny (model X.prog X.w) X.A (compareOp op v u) Q X.xe s₁) X.xe s1 := by
  refine thn (hb.pe.run pins s1 σ H1 (fun z H2 => Nxt T H1 H2 ∧ RpB X.K S H2 z y) I1 ⟨S, r, y, o1, e2, fun v H' n rp => ⟨n, rp⟩⟩) fun u s2 ⟨z2, H2, I2, r2, n2, p2⟩ => ?_
  refine thn (ho pins s2 σ H2 S z z2 v u x y _ (fun w H3 => w = .bl kb ∧ H3 = H2) I2 r1 r2 (p1.nxt n2) p2 e3 fun c' e' => ⟨by cases e'; rfl, rfl⟩) fun dd s3 ⟨w, H3, I3, r3, ew, eh⟩ => ?_
  subst ew eh
  cases r3
  exact k s3 _ I3 n2
theorem chE_some {o p : D → D → Option D} {f g h : E} {r : Env} {d : D} (bo : BoolO o) (bp : BoolO p) (ef : chE o p f g h r = some d) :
    ∃ x y kb, f r = some x ∧ g r = some y ∧ o x y = some (.bool kb) ∧ if kb = true then ∃ z kc, h r = some z ∧ p y z = some (.bool kc) ∧ d = .bool kc else d = .bool false := by
  simp only [chE, Option.bind_eq_bind, Option.bind_eq_some_iff] at ef
  obtain ⟨x, e1, y, e2, k, e3, e4⟩ := ef
  obtain ⟨kb, rfl⟩ := bo _ _ _ e3
  refine ⟨x, y, kb, e1, e2, e3, ?_⟩
  cases kb with
  | false => simp at e4 ⊢; exact e4.symm
  | true =>
    have e4 : (h r).bind (fun y' => p y y') = some d := by simpa using e4
    obtain ⟨z, e5, e6⟩ := Option.bind_eq_some_iff.mp e4
    obtain ⟨kc, rfl⟩ := bp _ _ _ e6
    rw [if_pos rfl]
    exact ⟨z, kc, e5, e6, rfl⟩
theorem chE3_some {o p q : D → D → Option D} {f g h k : E} {r : Env} {d : D} (bo : BoolO o) (bp : BoolO p) (bq : BoolO q) (ef : chE3 o p q f g h k r = some d) :
    ∃ x y kb, f r = some x ∧ g r = some y ∧ o x y = some (.bool kb) ∧ if kb = true then ∃ z kc, h r = some z ∧ p y z = some (.bool kc) ∧ (if kc = true then ∃ w kd, k r = some w ∧ q z w = some (.bool kd) ∧ d = .bool kd else d = .bool false) else d = .bool false := by
  simp only [chE3, Option.bind_eq_bind, Option.bind_eq_some_iff] at ef
  obtain ⟨x, e1, y, e2, k0, e3, e4⟩ := ef
  obtain ⟨kb, rfl⟩ := bo _ _ _ e3
  refine ⟨x, y, kb, e1, e2, e3, ?_⟩
  cases kb with
  | false => simp at e4 ⊢; exact e4.symm
  | true =>
    rw [if_pos rfl]
    simp only [Option.bind_eq_some_iff] at e4
    obtain ⟨z, e5, k1, e6, e7⟩ := e4
    obtain ⟨kc, rfl⟩ := bp _ _ _ e6
    refine ⟨z, kc, e5, e6, ?_⟩
    cases kc with
    | false => simp at e7 ⊢; exact e7.symm
    | true =>
      have e7 : (k r).bind (fun y' => q z y') = some d := by simpa using e7
      obtain ⟨w, e8, e9⟩ := Option.bind_eq_some_iff.mp e7
      obtain ⟨kd, rfl⟩ := bq _ _ _ e9
      rw [if_pos rfl]
      exact ⟨w, kd, e8, e9, rfl⟩
theorem e_ch {op op' : CmpOp} {o p : D → D → Option D} (ho : CmpD X T op o) (hp : CmpD X T op' p) (bo : BoolO o) (bp : BoolO p) (ha : DB X T a f) (hb : DB X T b g) (hc : DB X T c h)
    (hm : lastMarks [op, op'] [b, c] = false := by with_unfolding_all rfl) : DE X T (.Compare a [op, op'] [b, c] pos) (chE o p f g h) := by
  refine ⟨⟨fun pins s σ H Q I ⟨S, r, d, eo, ef, q⟩ => ?_⟩⟩
  obtain ⟨x, y, kb, e1, e2, e3, e4⟩ := chE_some bo bp ef
  refine Compare_chain (thn (ha.pe.run pins s σ H (fun z H1 => Nxt T H H1 ∧ RpB X.K S H1 z x) I ⟨S, r, x, eo, e1, fun v H' n rp => ⟨n, rp⟩⟩) fun v s1 ⟨z, H1, I1, r1, n1, p1⟩ =>
    chain_link (lk ho hb I1 (eo.nxt n1) r1 p1 e2 e3 fun u s3 z2 H2 I2 n2 r2 p2 => ?_)) hm
  cases kb with
  | false =>
    subst e4
    exact ite_ff ⟨.bl false, H2, I2, rfl, q _ _ (n1.trans n2) (.bl _)⟩
  | true =>
    rw [if_pos rfl] at e4
    obtain ⟨w, kc, e5, e6, rfl⟩ := e4
    exact ite_tt (chain_last (lk1 hp hc I2 (eo.nxt (n1.trans n2)) r2 p2 e5 e6 fun s4 H3 I3 n3 => ⟨.bl kc, H3, I3, rfl, q _ _ ((n1.trans n2).trans n3) (.bl _)⟩))
theorem e_ch3 {op op' op'' : CmpOp} {o p p' : D → D → Option D} {dd : Expr} {k : E} (ho : CmpD X T op o) (hp : CmpD X T op' p) (hp' : CmpD X T op'' p') (bo : BoolO o) (bp : BoolO p) (bp' : BoolO p') (ha : DB X T a f) (hb : DB X T b g) (hc : DB X T c h) (hd : DB X T dd k)
    (hm : lastMarks [op, op', op''] [b, c, dd] = false := by with_unfolding_all rfl) : DE X T (.Compare a [op, op', op''] [b, c, dd] pos) (chE3 o p p' f g h k) := by
  refine ⟨⟨fun pins s σ H Q I ⟨S, r, d, eo, ef, q⟩ => ?_⟩⟩
  obtain ⟨x, y, kb, e1, e2, e3, e4⟩ := chE3_some bo bp bp' ef
  refine Compare_chain (thn (ha.pe.run pins s σ H (fun z H1 => Nxt T H H1 ∧ RpB X.K S H1 z x) I ⟨S, r, x, eo, e1, fun v H' n rp => ⟨n, rp⟩⟩) fun v s1 ⟨z, H1, I1, r1, n1, p1⟩ =>
    chain_link (lk ho hb I1 (eo.nxt n1) r1 p1 e2 e3 fun u s3 z2 H2 I2 n2 r2 p2 => ?_)) hm
  cases kb with
  | false =>
    subst e4
    exact ite_ff ⟨.bl false, H2, I2, rfl, q _ _ (n1.trans n2) (.bl _)⟩
  | true =>
    rw [if_pos rfl] at e4
    obtain ⟨w, kc, e5, e6, e7⟩ := e4
    refine ite_tt (chain_link (lk hp hc I2 (eo.nxt (n1.trans n2)) r2 p2 e5 e6 fun u' s4 z3 H3 I3 n3 r3 p3 => ?_))
    cases kc with
    | false =>
      subst e7
      exact ite_ff ⟨.bl false, H3, I3, rfl, q _ _ ((n1.trans n2).trans n3) (.bl _)⟩
    | true =>
      rw [if_pos rfl] at e7
      obtain ⟨w', kd, e8, e9, rfl⟩ := e7
      exact ite_tt (chain_last (lk1 hp' hd I3 (eo.nxt ((n1.trans n2).trans n3)) r3 p3 e8 e9 fun s5 H4 I4 n4 => ⟨.bl kd, H4, I4, rfl, q _ _ (((n1.trans n2).trans n3).trans n4) (.bl _)⟩))
theorem t_ch {op op' : CmpOp} {o p : D → D → Option D} (ho : CmpD X T op o) (hp : CmpD X T op' p) (bo : BoolO o) (bp : BoolO p) (ha : DB X T a f) (hb : DB X T b g) (hc : DB X T c h)
    (hm : lastMarks [op, op'] [b, c] = false := by with_unfolding_all rfl) : DT X T (.Compare a [op, op'] [b, c] pos) (trT (chE o p f g h)) := by
  refine ⟨⟨fun pins s σ H Q I ⟨S, r, kk, eo, ef, q⟩ => ?_⟩⟩
  obtain ⟨d, ef2, et⟩ := trT_some ef
  obtain ⟨x, y, kb, e1, e2, e3, e4⟩ := chE_some bo bp ef2
  refine isTrue_chain (thn (ha.pe.run pins s σ H (fun z H1 => Nxt T H H1 ∧ RpB X.K S H1 z x) I ⟨S, r, x, eo, e1, fun v H' n rp => ⟨n, rp⟩⟩) fun v s1 ⟨z, H1, I1, r1, n1, p1⟩ =>
    test_link (lk (R := fun u c t s3 => if t = true then _ else _) ho hb I1 (eo.nxt n1) r1 p1 e2 e3 fun u s3 z2 H2 I2 n2 r2 p2 => ?_)) hm
  cases kb with
  | false =>
    subst e4
    cases et
    exact ite_ff ⟨H2, I2, q _ (n1.trans n2)⟩
  | true =>
    rw [if_pos rfl] at e4
    obtain ⟨w, kc, e5, e6, rfl⟩ := e4
    have ek : kc = kk := Option.some.inj et
    subst ek
    exact ite_tt (test_last (lk1 (Q := fun c s4 => wpAny (model X.prog X.w) X.A (truthy c) (TP X pins σ Q) X.xe s4) hp hc I2 (eo.nxt (n1.trans n2)) r2 p2 e5 e6 fun s4 H3 I3 n3 => wpAny_truthy_bool ⟨H3, I3, q _ ((n1.trans n2).trans n3)⟩))
theorem t_ch3 {op op' op'' : CmpOp} {o p p' : D → D → Option D} {dd : Expr} {k : E} (ho : CmpD X T op o) (hp : CmpD X T op' p) (hp' : CmpD X T op'' p') (bo : BoolO o) (bp : BoolO p) (bp' : BoolO p') (ha : DB X T a f) (hb : DB X T b g) (hc : DB X T c h) (hd : DB X T dd k)
    (hm : lastMarks [op, op', op''] [b, c, dd] = false := by with_unfolding_all rfl) : DT X T (.Compare a [op, op', op''] [b, c, dd] pos) (trT (chE3 o p p' f g h k)) := by
  refine ⟨⟨fun pins s σ H Q I ⟨S, r, kk, eo, ef, q⟩ => ?_⟩⟩
  obtain ⟨d, ef2, et⟩ := trT_some ef
  obtain ⟨x, y, kb, e1, e2, e3, e4⟩ := chE3_some bo bp bp' ef2
  refine isTrue_chain (thn (ha.pe.run pins s σ H (fun z H1 => Nxt T H H1 ∧ RpB X.K S H1 z x) I ⟨S, r, x, eo, e1, fun v H' n rp => ⟨n, rp⟩⟩) fun v s1 ⟨z, H1, I1, r1, n1, p1⟩ =>
    test_link (lk (R := fun u c t s3 => if t = true then _ else _) ho hb I1 (eo.nxt n1) r1 p1 e2 e3 fun u s3 z2 H2 I2 n2 r2 p2 => ?_)) hm
  cases kb with
  | false =>
    subst e4
    cases et
    exact ite_ff ⟨H2, I2, q _ (n1.trans n2)⟩
  | true =>
    rw [if_pos rfl] at e4
    obtain ⟨w, kc, e5, e6, e7⟩ := e4
    refine ite_tt (test_link (lk (R := fun u c t s3 => if t = true then _ else _) hp hc I2 (eo.nxt (n1.trans n2)) r2 p2 e5 e6 fun u' s4 z3 H3 I3 n3 r3 p3 => ?_))
    cases kc with
    | false =>
      subst e7
      cases et
      exact ite_ff ⟨H3, I3, q _ ((n1.trans n2).trans n3)⟩
    | true =>
      rw [if_pos rfl] at e7
      obtain ⟨w', kd, e8, e9, rfl⟩ := e7
      have ek : kd = kk := Option.some.inj et
      subst ek
      exact ite_tt (test_last (lk1 (Q := fun c s4 => wpAny (model X.prog X.w) X.A (truthy c) (TP X pins σ Q) X.xe s4) hp' hd I3 (eo.nxt ((n1.trans n2).trans n3)) r3 p3 e8 e9 fun s5 H4 I4 n4 => wpAny_truthy_bool ⟨H4, I4, q _ (((n1.trans n2).trans n3).trans n4)⟩))
theorem tr_of (ha : DE X T e f) (hb : ∀ r d, f r = some d → ∃ k, d = .bool k) (he : ∀ whole, isTrue e X.env whole = (do let v ← whole; standAt e.pos; holding [v] (truthy v)) := by intro _; rfl) : DT X T e (trT f) := t_tru (e_toB ha) he

/-! ### arguments and displays -/
theorem argsE_cons {f : E} {fs : List E} {r : Env} {ds : List D} (h : argsE (f :: fs) r = some ds) : ∃ d ds', f r = some d ∧ argsE fs r = some ds' ∧ ds = d :: ds' := by
  simp only [argsE, Option.bind_eq_bind, Option.bind_eq_some_iff] at h
  obtain ⟨d, h1, ds', h2, h3⟩ := h
  exact ⟨d, ds', h1, h2, (Option.some.inj h3).symm⟩
theorem RpAll.nxt' {K : PySem.W.Frag} {T S : List Addr} {H H' : Hp} {v : List V} {d : List D} (n : Nxt T H H') (h : RpAll K (mns S H) v d) : RpAll K (mns S H') v d := h.le (le_mns n.le)
theorem a_nil : DA X T [] [] := ⟨PA.imp pa_nil fun σ H Q ⟨S, r, ds, o, ef, q⟩ => by cases ef; exact q [] H (Nxt.refl o.tabs) .nil⟩
theorem a_cons (ha : DE X T e f) (hs : DA X T es fs) (hst : starEach (e :: es) X.env = (false, eval e X.env) :: starEach es X.env := by rfl) : DA X T (e :: es) (f :: fs) := ⟨PA.imp (pa_cons ha.pe hs.pa hst) fun σ H Q ⟨S, r, ds, o, ef, q⟩ => by
  obtain ⟨d, ds', e1, e2, rfl⟩ := argsE_cons ef
  exact ⟨S, r, d, o, e1, fun v H1 n1 p1 => ⟨S, r, ds', o.nxt n1, e2, fun vs H2 n2 p2 => q _ H2 (n1.trans n2) (.cons (p1.nxt n2) p2)⟩⟩⟩
theorem b_nil : DAB X T [] [] := ⟨PA.imp pa_nil fun σ H Q ⟨S, r, ds, o, ef, q⟩ => by cases ef; exact q [] H (Nxt.refl o.tabs) .nil⟩
theorem b_cons (ha : DB X T e f) (hs : DAB X T es fs) (hst : starEach (e :: es) X.env = (false, eval e X.env) :: starEach es X.env := by rfl) : DAB X T (e :: es) (f :: fs) := ⟨PA.imp (pa_cons ha.pe hs.pa hst) fun σ H Q ⟨S, r, ds, o, ef, q⟩ => by
  obtain ⟨d, ds', e1, e2, rfl⟩ := argsE_cons ef
  exact ⟨S, r, d, o, e1, fun v H1 n1 p1 => ⟨S, r, ds', o.nxt n1, e2, fun vs H2 n2 p2 => q _ H2 (n1.trans n2) (.cons (p1.nxt n2) p2)⟩⟩⟩
theorem bind_some1 {α β : Type} {o : Option α} {k : α → β} {d : β} (h : (do some (k (← o))) = some d) : ∃ x, o = some x ∧ d = k x := by
  simp only [Option.bind_eq_bind, Option.bind_eq_some_iff] at h
  obtain ⟨x, h1, h2⟩ := h
  exact ⟨x, h1, (Option.some.inj h2).symm⟩
theorem argsE_len {fs : List E} {r : Env} {ds : List D} (h : argsE fs r = some ds) : ds.length = fs.length := by
  induction fs generalizing ds with
  | nil => cases h; rfl
  | cons f fs ih =>
    obtain ⟨d, ds', _, e2, rfl⟩ := argsE_cons h
    rw [List.length_cons, List.length_cons, ih e2]
theorem e_tup {x1 : Nat} (hs : DA X T es fs) (hl : lenOk fs.length = true := by rfl) : DE X T (.Tuple es x1 pos) (tupE fs) := ⟨PE.imp (pe_tup hs.pa) fun σ H Q ⟨S, r, d, o, ef, q⟩ => by
  obtain ⟨ds, e1, rfl⟩ := bind_some1 ef
  refine ⟨S, r, ds, o, e1, fun vs H1 n1 p1 => ⟨by rw [p1.length, argsE_len e1]; exact lenOk_le hl, fun p hp => ?_⟩⟩
  obtain ⟨n2, rp⟩ := rp_newtup n1.tabs (o.live.ext n1.ext) hp p1
  exact q _ _ (n1.trans n2) rp⟩
theorem f_lst (hs : DA X T es fs) (hl : lenOk fs.length = true := by rfl) : DF X T (.List es pos) (lstE fs) := ⟨PE.imp (pe_lst hs.pa) fun σ H Q ⟨S, r, d, o, ef, q⟩ => by
  obtain ⟨ds, e1, rfl⟩ := bind_some1 ef
  refine ⟨S, r, ds, o, e1, fun vs H1 n1 p1 => ⟨by rw [p1.length, argsE_len e1]; exact lenOk_le hl, fun p hp => ?_⟩⟩
  obtain ⟨n2, ow⟩ := own_newlst n1.tabs (o.live.ext n1.ext) hp p1
  exact q p _ (n1.free hp) (n1.trans n2) ow⟩
theorem e_lst (hs : DA X T es fs) (hl : lenOk fs.length = true := by rfl) : DE X T (.List es pos) (lstE fs) := e_new (f_lst hs hl)
end
end Dm
end

section
set_option Elab.async false
set_option linter.all false
set_option autoImplicit true
set_option maxRecDepth 100000
set_option maxHeartbeats 1000000
/-! DExp3: +, *, places, slices, what is in; built-ins by values. -/
namespace Dm
open PySem PySem.Spec PyProof.Rows L2
section
variable {X : Cx} {T : List Addr} {e a b c : Expr} {es rest : List Expr} {f g h : E} {fs : List E} {pos : Pos} {u v w : Dm.T}

/-! ### + -/
theorem add_at {pins : List (Addr × Obj)} {s : Shared} {σ : L2.St} {H : Hp} {l b : Addr} {xs ys : List V} {Q : VK} (I : Inv X pins σ H s) (hl : SqL X.K H l xs) (hb : SqL X.K H b ys) (hz : xs.length + ys.length ≤ sizeLine)
    (q : ∀ p, H p = none → Q (.ref p) (upd H p (.lst (xs ++ ys)))) : wpAny (model X.prog X.w) X.A (binaryOp .Add (.ref l) (.ref b)) (EP X pins σ Q) X.xe s := by
  obtain ⟨its, r1, pl1, z1⟩ := I.list hl
  obtain ⟨its2, r2, pl2, z2⟩ := I.list hb
  obtain ⟨⟨cls, dd, data, sl⟩, ho, hc, n, hd⟩ := pl1.isList
  obtain ⟨⟨cls2, dd2, data2, sl2⟩, ho2, hc2, n2, hd2⟩ := pl2.isList
  simp only at hc hd hc2 hd2
  subst hc hd hc2 hd2
  have e1 := r1.length
  have e2 := r2.length
  have e : its.toArray ++ its2.toArray = (its ++ its2).toArray := by simp
  refine concat_meets ⟨_, ho, rfl⟩ ⟨_, ho2, rfl⟩ noFill_list_add seq_list_add PySem.F.slot_list_add PySem.F.entry_list_add (PySem.F.args_list_add_2 _ _) (list_addW l b its.toArray its2.toArray n n2 dd dd2 sl sl2 (by simp only [List.size_toArray]; omega)) ⟨ho, ho2, ?_⟩
  rw [e]
  refine ⟨.ref s.heap.objs.size, _, I.laid (t' := s.toks) (o := .lst (xs ++ ys)) (fun b ob q => Heap.get?_push_of_some _ q) (Nat.le_refl _) ?_, rfl, q _ (I.hok.fresh (Nat.le_refl _))⟩
  exact ⟨by rw [List.length_append]; exact hz, its ++ its2, 0, r1.append r2, Heap.get?_push_size _ rfl⟩
theorem o_add : OpD X T (binaryOp .Add) addD := fun pins s σ H S x y v u d e r Q I t l rx ry px py eo q => by
  unfold addD at eo
  split at eo
  · rename_i i j
    cases eo
    obtain rfl := px.int
    obtain rfl := py.int
    exact op_add pins s σ H _ _ v u Q I rx ry ⟨i, j, rfl, rfl, q _ H (Nxt.refl t) (.int _)⟩
  · rename_i xs ys
    split at eo
    · rename_i hz
      cases eo
      obtain ⟨a, vs, rfl, ha, ra⟩ := px.tuple
      obtain ⟨b, ws, rfl, hb, rb⟩ := py.tuple
      refine op_catA pins s σ H _ _ v u Q I rx ry ⟨a, b, vs, ws, rfl, rfl, .of ha, .of hb, by rw [ra.length, rb.length]; exact lenOk_le hz, fun e => ?_, fun _ e => ?_, fun _ _ p hp => ?_⟩
      · subst e
        cases ra
        rw [List.nil_append] at q
        have : RpB X.K S H (.ref b) (.tuple ys) := py
        rcases this with h | ⟨p, e, o⟩
        · exact q _ H (Nxt.refl t) h
        · cases o
      · subst e
        cases rb
        rw [List.append_nil] at q
        rcases px with h | ⟨p, e, o⟩
        · exact q _ H (Nxt.refl t) h
        · cases o
      · obtain ⟨n, rp⟩ := rp_newtup t l hp (ra.append rb)
        exact q _ _ n rp
    · cases eo
  · rename_i xs ys
    split at eo
    · rename_i hz
      cases eo
      obtain ⟨a, vs, rfl, ha, ra⟩ := px.list
      obtain ⟨b, ws, rfl, hb, rb⟩ := py.list
      cases rx
      cases ry
      refine add_at I ha hb (by rw [ra.length, rb.length]; exact lenOk_le hz) fun p hp => ?_
      obtain ⟨n, ow⟩ := own_newlst t l hp (ra.append rb)
      exact q _ _ n (own_rp (T := T) l hp ow)
    · cases eo
  · cases eo
/-- a new list: a + b of two lists -/
theorem f_add (ha : DB X T a f) (hb : DB X T b g) : DF X T (.BinOp a .Add b pos) (fun r => match opE addD f g r with | some (.list xs) => some (.list xs) | _ => none) := by
  refine ⟨⟨fun pins s σ H Q I ⟨S, r, d, eo, ef, q⟩ => ?_⟩⟩
  simp only at ef
  split at ef
  · rename_i zs ez
    cases ef
    obtain ⟨dx, dy, ex, ey, eo2⟩ := opE_some ez
    refine wpAny_BinOp (bin_some (ha := ha) (hb := hb) I eo ex ey fun v u s2 x y H2 I2 n rx ry px py => ?_)
    unfold addD at eo2
    split at eo2
    · cases eo2
    · split at eo2 <;> cases eo2
    · rename_i xs ys
      split at eo2
      · rename_i hz
        cases eo2
        obtain ⟨a, vs, rfl, ha, ra⟩ := px.list
        obtain ⟨b, ws, rfl, hb, rb⟩ := py.list
        cases rx
        cases ry
        refine add_at I2 ha hb (by rw [ra.length, rb.length]; exact lenOk_le hz) fun p hp => ?_
        obtain ⟨n2, ow⟩ := own_newlst n.tabs (eo.live.ext n.ext) hp (ra.append rb)
        exact q p _ (n.free hp) (n.trans n2) ow
      · cases eo2
    · cases eo2
  · cases ef

/-! ### * -/
theorem flat_len (xs : List V) : ∀ k : Nat, (List.replicate k xs).flatten.length = k * xs.length := fun k => PyProof.Rows.lm_len_rep_flat ..
theorem RpAll.rep {K : PySem.W.Frag} {H : Hp} {xs : List V} {ds : List D} (r : RpAll K H xs ds) : ∀ k : Nat, RpAll K H (List.replicate k xs).flatten (List.replicate k ds).flatten
  | 0 => .nil
  | k + 1 => by
    rw [List.replicate_succ, List.replicate_succ, List.flatten_cons, List.flatten_cons]
    exact r.append (RpAll.rep r k)
theorem small_ok {i : Int} (h : small64 i = true) : -(2 ^ 64) < i ∧ i < 2 ^ 64 := of_decide_eq_true h
theorem o_mulI : OpD X T (binaryOp .Mult) mulI := opd_int op_mul fun d e r eo => by
  unfold mulI at eo
  split at eo
  · rename_i i j
    split at eo
    · rename_i hc
      cases eo
      refine ⟨i, j, rfl, rfl, ?_, rfl⟩
      rcases Bool.or_eq_true_iff.mp hc with h | h
      · exact .inl (small_ok h)
      · exact .inr (small_ok h)
    · cases eo
  · cases eo
theorem f_rep (ha : DF X T a f) (hb : DE X T b g) : DF X T (.BinOp a .Mult b pos) (opE repL f g) := by
  refine ⟨⟨fun pins s σ H Q I ⟨S, r, d, eo, ef, q⟩ => ?_⟩⟩
  obtain ⟨dx, dy, ex, ey, eo2⟩ := opE_some ef
  unfold repL at eo2
  split at eo2
  · rename_i xs k
    split at eo2
    · rename_i hz
      cases eo2
      obtain ⟨hz1, hz2⟩ := Bool.and_eq_true_iff.mp hz
      have hz2 := of_decide_eq_true hz2
      refine wpAny_BinOp (thn (ha.pe.run pins s σ H (fun x H1 => ∃ p, x = .ref p ∧ H p = none ∧ Nxt T H H1 ∧ Own X.K (p :: S) H1 p (.list xs)) I ⟨S, r, _, eo, ex, fun p H' hp n ow => ⟨p, rfl, hp, n, ow⟩⟩) fun v s1 ⟨x, H1, I1, r1, p, ep, hp, n1, ow⟩ => ?_)
      subst ep
      refine thn (hb.pe.run pins s1 σ H1 (fun y H2 => Nxt T H1 H2 ∧ y = .int k) I1 ⟨S, r, _, eo.nxt n1, ey, fun v H' n rp => ⟨n, by cases rp; rfl⟩⟩) fun u s2 ⟨y, H2, I2, r2, n2, ek⟩ => ?_
      subst ek
      have ow := ow.nxt n2.ext
      cases ow with
      | lst hH rr =>
        refine op_rep pins s2 σ H2 _ _ v u Q I2 r1 r2 ⟨p, k, _, rfl, rfl, hH, hz2.1, hz2.2, by rw [rr.length]; exact lenOk_le hz1, fun p2 hp2 => ?_⟩
        obtain ⟨n3, ow3⟩ := own_newlst (T := T) n2.tabs (eo.live.ext (n1.trans n2).ext) hp2 ((rr.le (le_sub fun a m => List.mem_cons_of_mem _ m)).rep k.toNat)
        exact q p2 _ ((n1.trans n2).free hp2) ((n1.trans n2).trans n3) ow3
    · cases eo2
  · cases eo2

/-! ### places -/
theorem atL_atI {α : Type} (xs : List α) (i : Int) : atL xs i = atI xs i := by
  unfold atL atI ixN
  by_cases h0 : 0 ≤ i
  · rw [if_pos h0, if_pos h0]
    by_cases h1 : i < (xs.length : Int)
    · rw [if_pos h1]; rfl
    · rw [if_neg h1]
      exact List.getElem?_eq_none (by omega)
  · rw [if_neg h0, if_neg h0]
    by_cases h1 : -(xs.length : Int) ≤ i
    · rw [if_pos h1, if_pos (by omega)]
      show _ = xs[(i + (xs.length : Int)).toNat]?
      rw [Int.add_comm]
    · rw [if_neg h1, if_neg (by omega)]; rfl
theorem RpAll.at {K : PySem.W.Frag} {H : Hp} {xs : List V} {ds : List D} (r : RpAll K H xs ds) {i : Int} {d : D} (h : atL ds i = some d) : ∃ v, atI xs i = some v ∧ Rp K H v d := by
  rw [← atL_atI]
  unfold atL at h ⊢
  by_cases h0 : 0 ≤ i
  · rw [if_pos h0] at h ⊢; exact r.get h
  · rw [if_neg h0] at h ⊢
    rw [r.length]
    by_cases h1 : 0 ≤ (ds.length : Int) + i
    · rw [if_pos h1] at h ⊢; exact r.get h
    · rw [if_neg h1] at h; cases h
/-! keys -/
theorem flatK_key {d : D} (h : flatK d = true) : ∃ k : Key, d = kD k := by
  cases d with
  | int i => exact ⟨.inl i, rfl⟩
  | str x => exact ⟨.inr x, rfl⟩
  | _ => cases h
theorem flatKs_key : ∀ {ds : List D}, ds.all flatK = true → ∃ ks : List Key, ds = ks.map kD
  | [], _ => ⟨[], rfl⟩
  | d :: ds, h => by
    obtain ⟨h1, h2⟩ := Bool.and_eq_true_iff.mp (show (flatK d && ds.all flatK) = true from h)
    obtain ⟨k, rfl⟩ := flatK_key h1
    obtain ⟨ks, rfl⟩ := flatKs_key h2
    exact ⟨k :: ks, rfl⟩
theorem tupK_key {d : D} (h : tupK d = true) : ∃ ks : List Key, d = .tuple (ks.map kD) := by
  cases d with
  | tuple xs =>
    obtain ⟨ks, rfl⟩ := flatKs_key (show xs.all flatK = true from h)
    exact ⟨ks, rfl⟩
  | _ => cases h
theorem kD_inj {a b : Key} (h : kD a = kD b) : a = b := by
  cases a <;> cases b <;> simp [kD] at h <;> first | rw [h] | cases h
theorem eqv_kD (a b : Key) : PyData.eqv (kD a) (kD b) = decide (a = b) := by
  cases a <;> cases b <;> simp only [kD, PyData.eqv]
  · rw [Bool.eq_iff_iff, beq_iff_eq, decide_eq_true_iff]; constructor <;> intro h <;> first | rw [h] | exact Sum.inl.inj h
  · exact (decide_eq_false (by intro h; cases h)).symm
  · exact (decide_eq_false (by intro h; cases h)).symm
  · rw [Bool.eq_iff_iff, beq_iff_eq, decide_eq_true_iff]; constructor <;> intro h <;> first | rw [h] | exact Sum.inr.inj h
theorem eqvAll_kD : ∀ a b : List Key, PyData.eqvAll (a.map kD) (b.map kD) = decide (a = b)
  | [], [] => rfl
  | [], _ :: _ => (decide_eq_false (by intro h; cases h)).symm
  | _ :: _, [] => (decide_eq_false (by intro h; cases h)).symm
  | x :: xs, y :: ys => by
    show (PyData.eqv (kD x) (kD y) && PyData.eqvAll (xs.map kD) (ys.map kD)) = _
    rw [eqv_kD, eqvAll_kD xs ys, Bool.eq_iff_iff, Bool.and_eq_true_iff, decide_eq_true_iff, decide_eq_true_iff, decide_eq_true_iff, List.cons.injEq]
theorem eqv_tD (a b : List Key) : PyData.eqv (.tuple (a.map kD)) (.tuple (b.map kD)) = decide (a = b) := by
  show PyData.eqvAll _ _ = _
  exact eqvAll_kD a b
theorem lookK {K : PySem.W.Frag} {H : Hp} (k : Key) : ∀ {ks : List (Key × V)} {kvs : List (D × D)}, RpK K H ks kvs → (lookD kvs (kD k) = none ∧ valV ks k = none) ∨ ∃ d v, lookD kvs (kD k) = some d ∧ valV ks k = some v ∧ Rp K H v d
  | _, _, .nil => .inl ⟨rfl, rfl⟩
  | (k', v) :: ks, (_, d) :: kvs, .cons hp r => by
    by_cases h : k' = k
    · subst h
      refine .inr ⟨d, v, ?_, valV_pos rfl, hp⟩
      unfold lookD
      rw [List.find?_cons, show PyData.eqv (kD k', d).1 (kD k') = true by rw [eqv_kD]; simp]; rfl
    · have h1 : lookD ((kD k', d) :: kvs) (kD k) = lookD kvs (kD k) := by
        unfold lookD
        rw [List.find?_cons, show PyData.eqv (kD k', d).1 (kD k) = false by rw [eqv_kD]; simp [h]]
      rw [h1, valV_neg (p := (k', v)) h]
      exact lookK k r
theorem lookT {K : PySem.W.Frag} {H : Hp} (k : List Key) : ∀ {ks : List (List Key × V)} {kvs : List (D × D)}, RpT K H ks kvs → (lookD kvs (PyData.tuple (k.map kD)) = none ∧ valV ks k = none) ∨ ∃ d v, lookD kvs (PyData.tuple (k.map kD)) = some d ∧ valV ks k = some v ∧ Rp K H v d
  | _, _, .nil => .inl ⟨rfl, rfl⟩
  | (k', v) :: ks, (_, d) :: kvs, .cons hp r => by
    by_cases h : k' = k
    · subst h
      refine .inr ⟨d, v, ?_, valV_pos rfl, hp⟩
      unfold lookD
      rw [List.find?_cons, show PyData.eqv (PyData.tuple (k'.map kD), d).1 (PyData.tuple (k'.map kD)) = true by rw [eqv_tD]; simp]; rfl
    · have h1 : lookD ((PyData.tuple (k'.map kD), d) :: kvs) (PyData.tuple (k.map kD)) = lookD kvs (PyData.tuple (k.map kD)) := by
        unfold lookD
        rw [List.find?_cons, show PyData.eqv (PyData.tuple (k'.map kD), d).1 (PyData.tuple (k.map kD)) = false by rw [eqv_tD]; simp [h]]
      rw [h1, valV_neg (p := (k', v)) h]
      exact lookT k r
theorem kD_kV {K : PySem.W.Frag} {H : Hp} {x : V} {k : Key} (h : Rp K H x (kD k)) : x = kV k := by
  cases k with
  | inl i => cases h; rfl
  | inr y => cases h; rfl
theorem kDs_kV {K : PySem.W.Frag} {H : Hp} : ∀ {k : List Key} {xs : List V}, RpAll K H xs (k.map kD) → xs = k.map kV
  | [], _, .nil => rfl
  | k :: ks, _, .cons a b => by rw [kD_kV a, kDs_kV b]; rfl
theorem tupK_kD (k : Key) : tupK (kD k) = false := by cases k <;> rfl
theorem fitK {K : PySem.W.Frag} {H : Hp} {ks : List (Key × V)} {kvs : List (D × D)} (r : RpK K H ks kvs) (hne : kvs ≠ []) {d : D} (h : fitsK kvs d = true) : ∃ k, d = kD k := by
  unfold fitsK at h
  rcases Bool.or_eq_true_iff.mp h with h | h
  · exact flatK_key (Bool.and_eq_true_iff.mp h).1
  · cases r with
    | nil => exact absurd rfl hne
    | cons hp r =>
      have h2 := (Bool.and_eq_true_iff.mp h).2
      rw [List.all_cons, Bool.and_eq_true_iff, tupK_kD] at h2
      exact absurd h2.1 Bool.false_ne_true
theorem fitT {K : PySem.W.Frag} {H : Hp} {ks : List (List Key × V)} {kvs : List (D × D)} (r : RpT K H ks kvs) (hne : kvs ≠ []) {d : D} (h : fitsK kvs d = true) : ∃ k : List Key, d = .tuple (k.map kD) := by
  unfold fitsK at h
  rcases Bool.or_eq_true_iff.mp h with h | h
  · cases r with
    | nil => exact absurd rfl hne
    | cons hp r =>
      have h2 := (Bool.and_eq_true_iff.mp h).2
      rw [List.all_cons, Bool.and_eq_true_iff] at h2
      exact absurd h2.1 Bool.false_ne_true
  · exact tupK_key (Bool.and_eq_true_iff.mp h).1
theorem RpB.key {K : PySem.W.Frag} {S : List Addr} {H : Hp} {x : V} {k : Key} (h : RpB K S H x (kD k)) : x = kV k := kD_kV h.full
theorem RpB.keyT {K : PySem.W.Frag} {S : List Addr} {H : Hp} {x : V} {k : List Key} (h : RpB K S H x (.tuple (k.map kD))) : ∃ b, x = .ref b ∧ H b = some (.tup (k.map kV)) := by
  obtain ⟨a, xs, rfl, h1, h2⟩ := h.tuple
  exact ⟨a, rfl, by rw [h1, kDs_kV h2]⟩
/-- what a dict answers for a key: the two kinds of dicts -/
theorem dget_of {K : PySem.W.Frag} {S : List Addr} {H : Hp} {x y : V} {kvs : List (D × D)} {d : D} (h : RpB K S H x (.dict kvs)) (hy : RpB K S H y d) (hf : fitsK kvs d = true) (hne : kvs ≠ []) :
    ∃ a, x = .ref a ∧ ((lookD kvs d = none ∧ DGet H a y none) ∨ ∃ e v, lookD kvs d = some e ∧ DGet H a y (some v) ∧ Rp K (mns S H) v e) := by
  obtain ⟨a, rfl, ⟨ks, q, m, r⟩ | ⟨ks, q, m, r⟩⟩ := h.dict
  · refine ⟨a, rfl, ?_⟩
    obtain ⟨k, rfl⟩ := fitK r hne hf
    have ey := hy.key
    subst ey
    rcases lookK k r with ⟨h1, h2⟩ | ⟨e, v, h1, h2, h3⟩
    · exact .inl ⟨h1, .inl ⟨ks, k, q, rfl, h2.symm⟩⟩
    · exact .inr ⟨e, v, h1, .inl ⟨ks, k, q, rfl, h2.symm⟩, h3⟩
  · refine ⟨a, rfl, ?_⟩
    obtain ⟨k, rfl⟩ := fitT r hne hf
    obtain ⟨b, rfl, hb⟩ := hy.keyT
    rcases lookT k r with ⟨h1, h2⟩ | ⟨e, v, h1, h2, h3⟩
    · exact .inl ⟨h1, .inr ⟨ks, k, b, q, rfl, hb, h2.symm⟩⟩
    · exact .inr ⟨e, v, h1, .inr ⟨ks, k, b, q, rfl, hb, h2.symm⟩, h3⟩
/-- an empty dict is of both kinds -/
theorem emp_at {P : Program} {w : World} {H H' : Hp} {h : Heap} {a : Addr} {u : HO} (hu : u = .dK [] ∨ u = .dT []) (o : ObjOk P w H h a u) : ObjOk P w H' h a (.dK []) ∧ ObjOk P w H' h a (.dT []) := by
  have key : (a == sysModules) = false ∧ ∃ ob es ep, h.get? a = some ob ∧ ob.ExactDict ∧ ob.data = .dict es ep ∧ es.toList = [] := by
    rcases hu with rfl | rfl
    · obtain ⟨z, y, vs, r, ob, es, ep, e1, e2, e3, e4, e5, e6⟩ := o
      cases r
      refine ⟨y, ob, es, ep, e1, e2, e3, ?_⟩
      cases q : es.toList with
      | nil => rfl
      | cons a b => rw [q] at e5; cases e5
    · obtain ⟨z, y, xs, r, ob, es, ep, e1, e2, e3, e4, e5⟩ := o
      cases r
      exact ⟨y, ob, es, ep, e1, e2, e3, e4⟩
  obtain ⟨y, ob, es, ep, e1, e2, e3, e4⟩ := key
  refine ⟨⟨Nat.zero_le _, y, [], .nil, ob, es, ep, e1, e2, e3, ?_, ?_, List.nodup_nil⟩, ⟨Nat.zero_le _, y, [], .nil, ob, es, ep, e1, e2, e3, by rw [e4]; rfl, List.nodup_nil⟩⟩
  · have : es = #[] := Array.toList_inj.mp e4
    subst this
    intro i hi
    simp at hi
  · rw [e4]; exact .nil
theorem inv_emp {pins : List (Addr × Obj)} {s : Shared} {σ : L2.St} {H : Hp} {a : Addr} {u u' : HO} (I : Inv X pins σ H s) (hu : u = .dK [] ∨ u = .dT []) (hu' : u' = .dK [] ∨ u' = .dT []) (e : H a = some u) : Inv X pins σ (upd H a u') s := by
  have o := emp_at (H' := upd H a u') hu (I.hok a u e)
  obtain ⟨ob, eo⟩ : ∃ ob, s.heap.get? a = some ob := by
    have lt := (I.hok a u e).lt
    rcases hu with rfl | rfl
    · obtain ⟨z, y, vs, r, ob, es, ep, e1, _⟩ := I.hok a _ e
      exact ⟨ob, e1⟩
    · obtain ⟨z, y, xs, r, ob, es, ep, e1, _⟩ := I.hok a _ e
      exact ⟨ob, e1⟩
  refine I.write (h' := s.heap) (t' := s.toks) (by rw [e]; rcases hu with rfl | rfl <;> trivial) (.inl rfl) (fun _ _ _ q => q) ⟨ob, eo⟩ ?_
  rcases hu' with rfl | rfl
  · exact o.1
  · exact o.2
end
end Dm
end

section
set_option Elab.async false
set_option linter.all false
set_option autoImplicit true
set_option maxRecDepth 100000
set_option maxHeartbeats 1000000
/-! DExp4: what is in, places, slices, built-ins by values, calls of defs. -/
namespace Dm
open PySem PySem.Spec PyProof.Rows L2
section
variable {X : Cx} {T : List Addr} {e a b c : Expr} {es rest : List Expr} {f g h : E} {fs : List E} {pos : Pos} {u v w : Dm.T}
theorem upd_self {H : Hp} {a : Addr} {u : HO} (e : H a = some u) : upd H a u = H := by
  funext b
  by_cases h : b = a
  · subst h; rw [upd_same, e]
  · rw [upd_ne h]
/-- a key at an empty dict, whatever its kind -/
theorem emp_key {pins : List (Addr × Obj)} {s : Shared} {σ : L2.St} {H : Hp} {S : List Addr} {a : Addr} {y : V} {u : HO} {d : D} (I : Inv X pins σ H s) (hu : u = .dK [] ∨ u = .dT []) (e : H a = some u) (hy : RpB X.K S H y d) (hf : keyK d = true) :
    ∃ u', (u' = .dK [] ∨ u' = .dT []) ∧ Inv X pins σ (upd H a u') s ∧ DGet (upd H a u') a y none ∧ ∀ s', Inv X pins σ (upd H a u') s' → Inv X pins σ H s' := by
  have back : ∀ u', (u' = .dK [] ∨ u' = .dT []) → ∀ s', Inv X pins σ (upd H a u') s' → Inv X pins σ H s' := fun u' hu' s' I' => by
    have := inv_emp I' hu' hu upd_same
    rw [upd_upd, upd_self e] at this
    exact this
  rcases Bool.or_eq_true_iff.mp hf with hk | hk
  · obtain ⟨k, rfl⟩ := flatK_key hk
    have ey := hy.key
    subst ey
    exact ⟨.dK [], .inl rfl, inv_emp I hu (.inl rfl) e, .inl ⟨[], k, .inl upd_same, rfl, rfl⟩, back _ (.inl rfl)⟩
  · obtain ⟨k, rfl⟩ := tupK_key hk
    obtain ⟨b, rfl, hb⟩ := hy.keyT
    refine ⟨.dT [], .inr rfl, inv_emp I hu (.inr rfl) e, .inr ⟨[], k, b, .inl upd_same, rfl, ?_, rfl⟩, back _ (.inr rfl)⟩
    have hne : b ≠ a := fun z => by subst z; rw [hb] at e; rcases hu with rfl | rfl <;> cases e
    rw [upd_ne hne]; exact hb
theorem fits_key {kvs : List (D × D)} {d : D} (h : fitsK kvs d = true) : keyK d = true := by
  unfold fitsK at h
  unfold keyK
  rcases Bool.or_eq_true_iff.mp h with h | h
  · rw [(Bool.and_eq_true_iff.mp h).1]; rfl
  · rw [(Bool.and_eq_true_iff.mp h).1, Bool.or_true]
theorem dict_emp {K : PySem.W.Frag} {S : List Addr} {H : Hp} {x : V} (h : RpB K S H x (.dict [])) : ∃ a u, x = .ref a ∧ (u = .dK [] ∨ u = .dT []) ∧ H a = some u := by
  obtain ⟨a, rfl, ⟨ks, q, m, r⟩ | ⟨ks, q, m, r⟩⟩ := h.dict
  · cases r; exact ⟨a, _, rfl, .inl rfl, m rfl⟩
  · cases r; exact ⟨a, _, rfl, .inr rfl, m rfl⟩
theorem in_dict {pins : List (Addr × Obj)} {s : Shared} {σ : L2.St} {H : Hp} {S : List Addr} {x y : V} {v u : Value} {kvs : List (D × D)} {d : D} {Q : VK} (hu : X.A.units + 1 < cLine) (I : Inv X pins σ H s) (rx : RelV x v) (ry : RelV y u)
    (hx : RpB X.K S H x (.dict kvs)) (hy : RpB X.K S H y d) (hf : fitsK kvs d = true) (q : Q (.bl (lookD kvs d).isSome) H) : wpAny (model X.prog X.w) X.A (compareOp .In u v) (EP X pins σ Q) X.xe s := by
  by_cases hne : kvs = []
  · subst hne
    obtain ⟨a, o, rfl, ho, e⟩ := dict_emp hx
    cases rx
    obtain ⟨u', hu', I', g, back⟩ := emp_key I ho e hy (fits_key hf)
    exact d_in hu I' g ry fun s' I2 => ⟨.bl false, H, back s' I2, rfl, q⟩
  · obtain ⟨a, rfl, ⟨e, g⟩ | ⟨e, z, h1, g, h3⟩⟩ := dget_of hx hy hf hne
    · cases rx
      exact d_in hu I g ry fun s' I2 => ⟨.bl _, H, I2, rfl, by rw [e] at q; exact q⟩
    · cases rx
      exact d_in hu I g ry fun s' I2 => ⟨.bl _, H, I2, rfl, by rw [h1] at q; exact q⟩
theorem nin_dict {pins : List (Addr × Obj)} {s : Shared} {σ : L2.St} {H : Hp} {S : List Addr} {x y : V} {v u : Value} {kvs : List (D × D)} {d : D} {Q : VK} (hu : X.A.units + 1 < cLine) (I : Inv X pins σ H s) (rx : RelV x v) (ry : RelV y u)
    (hx : RpB X.K S H x (.dict kvs)) (hy : RpB X.K S H y d) (hf : fitsK kvs d = true) (q : Q (.bl (!(lookD kvs d).isSome)) H) : wpAny (model X.prog X.w) X.A (compareOp .NotIn u v) (EP X pins σ Q) X.xe s := by
  by_cases hne : kvs = []
  · subst hne
    obtain ⟨a, o, rfl, ho, e⟩ := dict_emp hx
    cases rx
    obtain ⟨u', hu', I', g, back⟩ := emp_key I ho e hy (fits_key hf)
    exact d_notIn hu I' g ry fun s' I2 => ⟨.bl true, H, back s' I2, rfl, q⟩
  · obtain ⟨a, rfl, ⟨e, g⟩ | ⟨e, z, h1, g, h3⟩⟩ := dget_of hx hy hf hne
    · cases rx
      exact d_notIn hu I g ry fun s' I2 => ⟨.bl _, H, I2, rfl, by rw [e] at q; exact q⟩
    · cases rx
      exact d_notIn hu I g ry fun s' I2 => ⟨.bl _, H, I2, rfl, by rw [h1] at q; exact q⟩
theorem plain_items {ds : List D} (h : plain (.list ds) = true) : PyData.canLayAll0 ds = true := plain_lay h
theorem plain_items2 {ds : List D} (h : plain (.tuple ds) = true) : PyData.canLayAll0 ds = true := plain_lay h
theorem room_in {A : Around} {ds : List D} {d : D} (h : plain d = true) (hu : A.units + 100 < cLine) : A.units + 1 + min (PyData.depthAll ds) d.depth < cLine := by
  have := plain_depth h
  omega
theorem c_in (hu : X.A.units + 100 < cLine) : CmpD X T .In inD := fun pins s σ H S x y v u d e r Q I rx ry px py eo q => by
  unfold inD at eo
  split at eo
  · rename_i ys
    split at eo
    · rename_i hp
      cases eo
      obtain ⟨h1, h2⟩ := Bool.and_eq_true_iff.mp hp
      obtain ⟨as, r1⟩ := Dp.reads I d x v (px.dp h1) rx
      obtain ⟨bs, r2⟩ := Dp.reads I (.list ys) y u (py.dp h2) ry
      exact SeqAt.in_list_reads r2 r1 (plain_items h2) (plain_lay h1) (room_in h1 hu) ⟨.bl _, H, I, rfl, q _ rfl⟩
    · cases eo
  · rename_i ys
    split at eo
    · rename_i hp
      cases eo
      obtain ⟨h1, h2⟩ := Bool.and_eq_true_iff.mp hp
      obtain ⟨as, r1⟩ := Dp.reads I d x v (px.dp h1) rx
      obtain ⟨bs, r2⟩ := Dp.reads I (.tuple ys) y u (py.dp h2) ry
      exact SeqAt.in_tuple_reads r2 r1 (plain_items2 h2) (plain_lay h1) (room_in h1 hu) ⟨.bl _, H, I, rfl, q _ rfl⟩
    · cases eo
  · rename_i kvs
    split at eo
    · rename_i hp
      cases eo
      exact in_dict (by omega) I ry rx py px hp (q _ rfl)
    · cases eo
  · cases eo
theorem c_nin (hu : X.A.units + 100 < cLine) : CmpD X T .NotIn ninD := fun pins s σ H S x y v u d e r Q I rx ry px py eo q => by
  unfold ninD at eo
  split at eo
  · rename_i ys
    split at eo
    · rename_i hp
      cases eo
      obtain ⟨h1, h2⟩ := Bool.and_eq_true_iff.mp hp
      obtain ⟨as, r1⟩ := Dp.reads I d x v (px.dp h1) rx
      obtain ⟨bs, r2⟩ := Dp.reads I (.list ys) y u (py.dp h2) ry
      exact SeqAt.notIn_list_reads r2 r1 (plain_items h2) (plain_lay h1) (room_in h1 hu) ⟨.bl _, H, I, rfl, q _ rfl⟩
    · cases eo
  · rename_i ys
    split at eo
    · rename_i hp
      cases eo
      obtain ⟨h1, h2⟩ := Bool.and_eq_true_iff.mp hp
      obtain ⟨as, r1⟩ := Dp.reads I d x v (px.dp h1) rx
      obtain ⟨bs, r2⟩ := Dp.reads I (.tuple ys) y u (py.dp h2) ry
      exact SeqAt.notIn_tuple_reads r2 r1 (plain_items2 h2) (plain_lay h1) (room_in h1 hu) ⟨.bl _, H, I, rfl, q _ rfl⟩
    · cases eo
  · rename_i kvs
    split at eo
    · rename_i hp
      cases eo
      exact nin_dict (by omega) I ry rx py px hp (q _ rfl)
    · cases eo
  · cases eo
theorem b_in : BoolO inD := fun d e r h => by
  unfold inD at h
  split at h <;> (try split at h) <;> cases h <;> exact ⟨_, rfl⟩
theorem b_nin : BoolO ninD := fun d e r h => by
  unfold ninD at h
  split at h <;> (try split at h) <;> cases h <;> exact ⟨_, rfl⟩

/-! ### a[b] -/
theorem dict_at {value slice : Expr} {pins : List (Addr × Obj)} {s : Shared} {σ : L2.St} {H : Hp} {a : Addr} {y z : V} {u : Value} {Q : VK} (hu : X.A.units + 1 < cLine) (I : Inv X pins σ H s) (g : DGet H a y (some z)) (ry : RelV y u)
    (hs : subscripted slice false (.ref a) u = operate [.ref a, u] (getItem (.ref a) u)) (q : Q z H) : wpAny (model X.prog X.w) X.A (subscriptTail value slice (.ref a) u) (EP X pins σ Q) X.xe s := by
  have hT := dict_typeIs I g
  unfold subscriptTail
  refine wpAny_bind ?_
  rw [getitemInPython_of_ne hT.not_modules]
  refine wpAny_bind (wpAny_specialOf hT PySem.F.slot_dict_getitem.lookup ?_)
  have fin : wpAny (model X.prog X.w) X.A (subscripted slice false (.ref a) u) (fun r s₃ => wpAny (model X.prog X.w) X.A (letTemporaryGo value (.ref a) r >>= fun _ => pure r) (EP X pins σ Q) X.xe s₃) X.xe s := by
    rw [hs]
    exact wpAny_operating (d_getItem hu I g ry fun w' s3 I3 rw' => wpAny_bind (wpAny_letTemporaryGo (wpAny_pure ⟨z, H, I3, rw', q⟩)))
  first
    | exact wpAny_pure (wpAny_bind fin)
    | exact wpAny_bind (wpAny_pure (wpAny_bind fin))
    | exact wpAny_bind fin
theorem e_ix (hu : X.A.units + 1 < cLine) (ha : DB X T a f) (hb : DE X T b g) (hs : PlainIx b := by intro _ _; rfl) : DE X T (.Subscript a b pos) (opE ixD f g) := by
  refine ⟨⟨fun pins s σ H Q I ⟨S, r, d, eo, ef, q⟩ => ?_⟩⟩
  obtain ⟨dx, dy, ex, ey, eo2⟩ := opE_some ef
  refine Subscript_ (bin_some (ha := ha) (hb := e_toB hb) I eo ex ey fun v u s2 x y H2 I2 n rx ry px py => ?_)
  unfold ixD at eo2
  split at eo2
  · rename_i xs i
    obtain ⟨p, vs, rfl, hl, rr⟩ := px.list
    obtain rfl := py.int
    obtain ⟨z, ez, rz⟩ := rr.at eo2
    exact ix_list a b pins s2 σ H2 _ _ v u Q I2 rx ry ⟨p, vs, i, z, rfl, rfl, hl, ez, q z H2 n rz⟩ (hs _ _)
  · rename_i xs i
    obtain ⟨p, vs, rfl, hl, rr⟩ := px.tuple
    obtain rfl := py.int
    obtain ⟨z, ez, rz⟩ := rr.at eo2
    exact ix_tup a b pins s2 σ H2 _ _ v u Q I2 rx ry ⟨p, vs, i, z, rfl, rfl, .of hl, ez, q z H2 n rz⟩ (hs _ _)
  · rename_i kvs
    split at eo2
    · rename_i hf
      have hne : kvs ≠ [] := fun z => by subst z; cases eo2
      obtain ⟨p, rfl, ⟨e1, g1⟩ | ⟨e2, z, h1, g1, h3⟩⟩ := dget_of px py hf hne
      · rw [e1] at eo2; cases eo2
      · rw [h1] at eo2
        cases eo2
        cases rx
        exact dict_at hu I2 g1 ry (hs _ _) (q z H2 n h3)
    · cases eo2
  · cases eo2

/-! ### slices -/
theorem cut_eq {α : Type} (xs : List α) (lo hi : Option Int) : cutL xs lo hi = (xs.drop (HT.sIx xs.length 0 lo)).take (HT.sIx xs.length xs.length hi - HT.sIx xs.length 0 lo) := by
  cases lo <;> cases hi <;> rfl
theorem RpAll.cut {K : PySem.W.Frag} {H : Hp} {xs : List V} {ds : List D} (r : RpAll K H xs ds) (lo hi : Option Int) : RpAll K H (cutV xs lo hi) (cutL ds lo hi) := by
  rw [cut_eq]
  unfold cutV
  rw [r.length]
  exact (r.drop _).take _
/-- a part of a slice -/
def tDO (K : PySem.W.Frag) (T : List Addr) (f : Option E) : TO := fun σ H Q => ∃ S r o, EnvOk K T S H σ r ∧ partE f r = some o ∧ ∀ H', Nxt T H H' → Q o H'
structure DO (X : Cx) (T : List Addr) (e : Option Expr) (f : Option E) : Prop where
  po : PO X e (tDO X.K T f)
theorem PO.imp {e : Option Expr} {t u : TO} (h : PO X e t) (i : ∀ σ H Q, u σ H Q → t σ H Q) : PO X e u := ⟨fun pins s σ H Q I q => h.run pins s σ H Q I (i σ H Q q)⟩
theorem so_none : DO X T none none := ⟨PO.imp po_none fun σ H Q ⟨S, r, o, eo, ef, q⟩ => by cases ef; exact q H (Nxt.refl eo.tabs)⟩
theorem so_some (ha : DE X T a f) : DO X T (some a) (some f) := ⟨PO.imp (po_some ha.pe) fun σ H Q ⟨S, r, o, eo, ef, q⟩ => by
  unfold partE at ef
  simp only at ef
  split at ef
  · rename_i i e1
    cases ef
    exact ⟨S, r, _, eo, e1, fun v H' n rp => ⟨i, by cases rp; rfl, q H' n⟩⟩
  · cases ef⟩
theorem cutE_some {f : E} {lo hi : Option E} {r : Env} {d : D} (h : cutE f lo hi r = some d) : ∃ x l u, f r = some x ∧ partE lo r = some l ∧ partE hi r = some u ∧ ((∃ xs, x = .list xs ∧ d = .list (cutL xs l u)) ∨ ∃ xs, x = .tuple xs ∧ d = .tuple (cutL xs l u)) := by
  simp only [cutE, Option.bind_eq_bind, Option.bind_eq_some_iff] at h
  obtain ⟨x, h1, l, h2, u, h3, h4⟩ := h
  refine ⟨x, l, u, h1, h2, h3, ?_⟩
  unfold cutD at h4
  split at h4
  · cases h4; exact .inl ⟨_, rfl, rfl⟩
  · cases h4; exact .inr ⟨_, rfl, rfl⟩
  · cases h4
theorem whole_eq {α : Type} {xs : List α} {lo hi : Option Int} (h : HT.sIx xs.length 0 lo = 0 ∧ HT.sIx xs.length xs.length hi = xs.length) : cutL xs lo hi = xs := by
  rw [cut_eq, h.1, h.2]; simp
theorem e_cut {lo hi : Option Expr} {fl fh : Option E} {p2 : Pos} (ha : DB X T a f) (hl : DO X T lo fl) (hh : DO X T hi fh) : DE X T (.Subscript a (.Slice lo hi none p2) pos) (cutE f fl fh) := by
  have key := pe_slice (pos := pos) (p2 := p2) (SlR.or sl_list sl_tupA) ha.pe hl.po hh.po
  refine ⟨PE.imp key fun σ H Q ⟨S, r, d, o, ef, q⟩ => ?_⟩
  obtain ⟨x, l, u, e1, e2, e3, e4⟩ := cutE_some ef
  refine ⟨S, r, x, o, e1, fun v H1 n1 p1 => ⟨S, r, l, o.nxt n1, e2, fun H2 n2 => ⟨S, r, u, o.nxt (n1.trans n2), e3, fun H3 n3 => ?_⟩⟩⟩
  have n13 := (n1.trans n2).trans n3
  have p3 : RpB X.K S H3 v x := p1.nxt (n2.trans n3)
  have l3 := o.live.ext n13.ext
  rcases e4 with ⟨xs, rfl, rfl⟩ | ⟨xs, rfl, rfl⟩
  · obtain ⟨p, vs, rfl, hs, rr⟩ := p3.list
    refine .inl ⟨p, vs, rfl, hs, fun p2 hp2 => ?_⟩
    obtain ⟨n4, ow⟩ := own_newlst (T := T) n13.tabs l3 hp2 (rr.cut l u)
    exact q _ _ (n13.trans n4) (own_rp (T := T) l3 hp2 ow)
  · obtain ⟨p, vs, rfl, hs, rr⟩ := p3.tuple
    refine .inr ⟨p, vs, rfl, .of hs, ?_⟩
    first
      | (refine ⟨fun hw => ?_, fun hw p2 hp2 => ?_⟩
         · rw [rr.length] at hw
           rw [whole_eq hw] at q
           rcases p3 with h | ⟨p', e', o'⟩
           · exact q _ H3 n13 h
           · cases o'
         · obtain ⟨n4, rp⟩ := rp_newtup n13.tabs l3 hp2 (rr.cut l u)
           exact q _ _ (n13.trans n4) rp)
end
end Dm
end

section
set_option Elab.async false
set_option linter.all false
set_option autoImplicit true
set_option maxRecDepth 100000
set_option maxHeartbeats 1000000
/-! DExp5: calls of defs; built-ins by values. -/
namespace Dm
open PySem PySem.Spec PyProof.Rows L2

/-! ### defs -/
/-- what a def computes -/
def spD (K : PySem.W.Frag) (T : List Addr) (n : Nat) (F : List D → Option D) : Sp := fun vs H Q _ => ∃ O ds r, vs.length = n ∧ Tabs T H ∧ Live O H ∧ RpAll K (mns O H) vs ds ∧ F ds = some r ∧ ∀ v H', Nxt T H H' → Rp K (mns O H') v r → Q v H'
structure DefOk (P : Program) (w : World) (K : PySem.W.Frag) (mg : Str → Option Value) (base : Heap) (T : List Addr) (x : Str) (k n : Nat) (F : List D → Option D) : Prop where
  ok : ∃ f fd ps, FnOk P w K mg base CX0 k f fd ps (spD K T n F) ∧ mg x = some (.ref f) ∧ PySem.W.keepIn K (.ref f) = true ∧ Binds K fd ps []
theorem DefOk.mono {P : Program} {w : World} {K : PySem.W.Frag} {mg : Str → Option Value} {base : Heap} {T : List Addr} {x : Str} {j k n : Nat} {F : List D → Option D} (G : DefOk P w K mg base T x j n F) (h : j ≤ k) : DefOk P w K mg base T x k n F := by
  obtain ⟨f, fd, ps, h1, h2⟩ := G.ok
  exact ⟨f, fd, ps, h1.mono h, h2⟩
theorem RpBs.full {K : PySem.W.Frag} {S : List Addr} {H : Hp} : ∀ {vs : List V} {ds : List D}, RpBs K S H vs ds → RpAll K H vs ds
  | _, _, .nil => .nil
  | _, _, .cons a b => .cons a.full b.full
theorem mns_nil (H : Hp) : mns [] H = H := by
  funext a
  exact mns_of (by simp)
theorem callE_some {F : List D → Option D} {fs : List E} {r : Env} {d : D} (h : callE F fs r = some d) : ∃ ds, argsE fs r = some ds ∧ F ds = some d := by
  simp only [callE, Option.bind_eq_bind, Option.bind_eq_some_iff] at h
  exact h
section
variable {X : Cx} {T : List Addr} {e a b c : Expr} {es rest : List Expr} {f g h : E} {fs : List E} {pos p : Pos} {u v w : Dm.T}
theorem RpAll.length' {K : PySem.W.Frag} {H : Hp} {vs : List V} {ds : List D} {n : Nat} (r : RpAll K H vs ds) (h : ds.length = n) : vs.length = n := r.length.trans h
theorem e_call {x : Str} {k k' n : Nat} {F : List D → Option D} (G : DefOk X.prog X.w X.K X.mg X.base T x k n F) (hr : Room k' X.A) (ha : DA X T (e :: es) fs) (hk : k ≤ k' := by decide) (hn : fs.length = n := by rfl) (hg : Gl X x := by rfl)
    (hdb : (x == ("__debug__" : Str)) = false := by decide) (he : starEach (e :: es) X.env = (false, eval e X.env) :: starEach es X.env := by rfl) (hpl : (backTo pos (starEach es X.env)).any (·.1) = false := by rfl) :
    DE X T (.Call (.Name x p) (e :: es) [] pos) (callE F fs) := by
  obtain ⟨f, fd, ps, h1, h2, h3, h4⟩ := G.ok
  refine ⟨PE.imp (pe_call h1 (hr.mono hk) hg h2 h3 h4 .nil pass0 ha.pa hdb he hpl) fun σ H Q ⟨S, r, d, o, ef, q⟩ => ?_⟩
  obtain ⟨ds, e1, e2⟩ := callE_some ef
  refine ⟨S, r, ds, o, e1, fun vs H1 n1 p1 => ?_⟩
  show spD X.K T n F (vs ++ []) H1 Q E0
  rw [List.append_nil]
  exact ⟨S, ds, d, p1.length' ((argsE_len e1).trans hn), n1.tabs, o.live.ext n1.ext, p1, e2, fun v H' n2 rp => q v H' (n1.trans n2) rp⟩
theorem callB_some {F : List D → Option D} {fs : List E} {r : Env} {d : D} (h : callB F fs r = some d) : ∃ ds, argsE fs r = some ds ∧ F ds = some d ∧ fixed d = true := by
  simp only [callB, Option.bind_eq_bind, Option.bind_eq_some_iff] at h
  obtain ⟨ds, h1, d', h2, h3⟩ := h
  split at h3
  · rename_i hf
    cases h3
    exact ⟨ds, h1, h2, hf⟩
  · cases h3
theorem e_callB {x : Str} {k k' n : Nat} {F : List D → Option D} (G : DefOk X.prog X.w X.K X.mg X.base T x k n F) (hr : Room k' X.A) (ha : DAB X T (e :: es) fs) (hk : k ≤ k' := by decide) (hn : fs.length = n := by rfl) (hg : Gl X x := by rfl)
    (hdb : (x == ("__debug__" : Str)) = false := by decide) (he : starEach (e :: es) X.env = (false, eval e X.env) :: starEach es X.env := by rfl) (hpl : (backTo pos (starEach es X.env)).any (·.1) = false := by rfl) :
    DE X T (.Call (.Name x p) (e :: es) [] pos) (callB F fs) := by
  obtain ⟨f, fd, ps, h1, h2, h3, h4⟩ := G.ok
  refine ⟨PE.imp (pe_call h1 (hr.mono hk) hg h2 h3 h4 .nil pass0 ha.pa hdb he hpl) fun σ H Q ⟨S, r, d, o, ef, q⟩ => ?_⟩
  obtain ⟨ds, e1, e2, e3⟩ := callB_some ef
  refine ⟨S, r, ds, o, e1, fun vs H1 n1 p1 => ?_⟩
  show spD X.K T n F (vs ++ []) H1 Q E0
  rw [List.append_nil]
  refine ⟨[], ds, d, p1.full.length' ((argsE_len e1).trans hn), n1.tabs, (fun a z => by simp at z), ?_, e2, fun v H' n2 rp => ?_⟩
  · rw [mns_nil]; exact p1.full
  · rw [mns_nil] at rp
    exact q v H' (n1.trans n2) (rp.stays (o.live.ext (n1.trans n2).ext).notup e3)

/-! ### built-ins by values -/
def rD (K : PySem.W.Frag) (T : List Addr) (o : List D → Option D) : List V → Hp → VK → Prop := fun xs H Q => ∃ S ds r, Tabs T H ∧ Live S H ∧ RpBs K S H xs ds ∧ o ds = some r ∧ ∀ z H', Nxt T H H' → Rp K (mns S H') z r → Q z H'
def rF (K : PySem.W.Frag) (T : List Addr) (o : List D → Option D) : List V → Hp → VK → Prop := fun xs H Q => ∃ S ds r, Tabs T H ∧ Live S H ∧ RpBs K S H xs ds ∧ o ds = some r ∧ ∀ p H', H p = none → Nxt T H H' → Own K (p :: S) H' p r → Q (.ref p) H'
/-- one value -/
def on1 (o : D → Option D) : List D → Option D
  | [d] => o d
  | _ => none
def on2 (o : D → D → Option D) : List D → Option D
  | [d, e] => o d e
  | _ => none
theorem on1_some {o : D → Option D} {ds : List D} {r : D} (h : on1 o ds = some r) : ∃ d, ds = [d] ∧ o d = some r := by
  unfold on1 at h
  split at h
  · exact ⟨_, rfl, h⟩
  · cases h
theorem on2_some {o : D → D → Option D} {ds : List D} {r : D} (h : on2 o ds = some r) : ∃ d e, ds = [d, e] ∧ o d e = some r := by
  unfold on2 at h
  split at h
  · exact ⟨_, _, rfl, h⟩
  · cases h
theorem RpBs.one {K : PySem.W.Frag} {S : List Addr} {H : Hp} {xs : List V} {d : D} (h : RpBs K S H xs [d]) : ∃ x, xs = [x] ∧ RpB K S H x d := by
  cases h with
  | cons a b => cases b; exact ⟨_, rfl, a⟩
theorem RpBs.two {K : PySem.W.Frag} {S : List Addr} {H : Hp} {xs : List V} {d e : D} (h : RpBs K S H xs [d, e]) : ∃ x y, xs = [x, y] ∧ RpB K S H x d ∧ RpB K S H y e := by
  cases h with
  | cons a b => obtain ⟨y, rfl, hy⟩ := b.one; exact ⟨_, _, rfl, a, hy⟩
theorem CallR.imp {fv : Value} {r r' : List V → Hp → VK → Prop} (h : CallR X fv r) (i : ∀ xs H Q, r' xs H Q → r xs H Q) : CallR X fv r' := fun pins s σ H xs us Q I rx q => h pins s σ H xs us Q I rx (i xs H Q q)
theorem e_bi {x : Str} {id : String} {o : List D → Option D} (hc : CallR X (.builtin id) (rD X.K T o)) (hm : X.mg x = none) (hv : bootBuiltins x = some (.builtin id)) (ha : DAB X T (e :: es) fs) (hg : Gl X x := by rfl) (hn : x ≠ "__name__" := by decide)
    (hdb : (x == ("__debug__" : Str)) = false := by decide) (he : starEach (e :: es) X.env = (false, eval e X.env) :: starEach es X.env := by rfl) (hpl : (backTo pos (starEach es X.env)).any (·.1) = false := by rfl) :
    DE X T (.Call (.Name x p) (e :: es) [] pos) (callE o fs) := ⟨PE.imp (pe_callB hc hg hm hv ha.pa hn hdb he hpl) fun σ H Q ⟨S, r, d, eo, ef, q⟩ => by
  obtain ⟨ds, e1, e2⟩ := callE_some ef
  exact ⟨S, r, ds, eo, e1, fun vs H1 n1 p1 => ⟨S, ds, d, n1.tabs, eo.live.ext n1.ext, p1, e2, fun v H' n2 rp => q v H' (n1.trans n2) rp⟩⟩⟩
theorem e_bt {x : Str} {id : String} {o : List D → Option D} (hc : CallR X (.type id) (rD X.K T o)) (hm : X.mg x = none) (hv : bootBuiltins x = some (.type id)) (ha : DAB X T (e :: es) fs) (hg : Gl X x := by rfl) (hn : x ≠ "__name__" := by decide)
    (hdb : (x == ("__debug__" : Str)) = false := by decide) (he : starEach (e :: es) X.env = (false, eval e X.env) :: starEach es X.env := by rfl) (hpl : (backTo pos (starEach es X.env)).any (·.1) = false := by rfl) :
    DE X T (.Call (.Name x p) (e :: es) [] pos) (callE o fs) := ⟨PE.imp (pe_callTy hc hg hm hv ha.pa hn hdb he hpl) fun σ H Q ⟨S, r, d, eo, ef, q⟩ => by
  obtain ⟨ds, e1, e2⟩ := callE_some ef
  exact ⟨S, r, ds, eo, e1, fun vs H1 n1 p1 => ⟨S, ds, d, n1.tabs, eo.live.ext n1.ext, p1, e2, fun v H' n2 rp => q v H' (n1.trans n2) rp⟩⟩⟩
theorem f_bi {x : Str} {id : String} {o : List D → Option D} (hc : CallR X (.builtin id) (rF X.K T o)) (hm : X.mg x = none) (hv : bootBuiltins x = some (.builtin id)) (ha : DAB X T (e :: es) fs) (hg : Gl X x := by rfl) (hn : x ≠ "__name__" := by decide)
    (hdb : (x == ("__debug__" : Str)) = false := by decide) (he : starEach (e :: es) X.env = (false, eval e X.env) :: starEach es X.env := by rfl) (hpl : (backTo pos (starEach es X.env)).any (·.1) = false := by rfl) :
    DF X T (.Call (.Name x p) (e :: es) [] pos) (callE o fs) := ⟨PE.imp (pe_callB hc hg hm hv ha.pa hn hdb he hpl) fun σ H Q ⟨S, r, d, eo, ef, q⟩ => by
  obtain ⟨ds, e1, e2⟩ := callE_some ef
  exact ⟨S, r, ds, eo, e1, fun vs H1 n1 p1 => ⟨S, ds, d, n1.tabs, eo.live.ext n1.ext, p1, e2, fun p H' hp n2 ow => q p H' (n1.free hp) (n1.trans n2) ow⟩⟩⟩
theorem f_bt {x : Str} {id : String} {o : List D → Option D} (hc : CallR X (.type id) (rF X.K T o)) (hm : X.mg x = none) (hv : bootBuiltins x = some (.type id)) (ha : DAB X T (e :: es) fs) (hg : Gl X x := by rfl) (hn : x ≠ "__name__" := by decide)
    (hdb : (x == ("__debug__" : Str)) = false := by decide) (he : starEach (e :: es) X.env = (false, eval e X.env) :: starEach es X.env := by rfl) (hpl : (backTo pos (starEach es X.env)).any (·.1) = false := by rfl) :
    DF X T (.Call (.Name x p) (e :: es) [] pos) (callE o fs) := ⟨PE.imp (pe_callTy hc hg hm hv ha.pa hn hdb he hpl) fun σ H Q ⟨S, r, d, eo, ef, q⟩ => by
  obtain ⟨ds, e1, e2⟩ := callE_some ef
  exact ⟨S, r, ds, eo, e1, fun vs H1 n1 p1 => ⟨S, ds, d, n1.tabs, eo.live.ext n1.ext, p1, e2, fun p H' hp n2 ow => q p H' (n1.free hp) (n1.trans n2) ow⟩⟩⟩
/-- the same function -/
theorem DE.of (h : DE X T e f) (i : ∀ r d, g r = some d → f r = some d) : DE X T e g := ⟨PE.imp h.pe fun σ H Q ⟨S, r, d, o, ef, q⟩ => ⟨S, r, d, o, i r d ef, q⟩⟩
theorem DF.of (h : DF X T e f) (i : ∀ r d, g r = some d → f r = some d) : DF X T e g := ⟨PE.imp h.pe fun σ H Q ⟨S, r, d, o, ef, q⟩ => ⟨S, r, d, o, i r d ef, q⟩⟩
theorem un_on1 {o : D → Option D} {r : Env} {d : D} (h : unE o f r = some d) : callE (on1 o) [f] r = some d := by
  obtain ⟨x, e1, e2⟩ := unE_some h
  simp only [callE, argsE, Option.bind_eq_bind, e1, Option.bind_some, on1, e2]
theorem op_on2 {o : D → D → Option D} {r : Env} {d : D} (h : opE o f g r = some d) : callE (on2 o) [f, g] r = some d := by
  obtain ⟨x, y, e1, e2, e3⟩ := opE_some h
  simp only [callE, argsE, Option.bind_eq_bind, e1, e2, Option.bind_some, on2, e3]
theorem cd_len : CallR X (.builtin "len") (rD X.K T (on1 lenD)) := by
  intro pins s σ H xs us Q I rx ⟨S, ds, r, t, l, rp, eo, q⟩
  obtain ⟨d, rfl, e2⟩ := on1_some eo
  obtain ⟨x, rfl, hx⟩ := rp.one
  unfold lenD at e2
  split at e2
  · cases e2
    obtain ⟨a, ys, rfl, hl, rr⟩ := hx.list
    exact call_len_seq pins s σ H _ us Q I rx ⟨a, ys, rfl, .inl hl, by rw [rr.length]; exact q _ H (Nxt.refl t) (.int _)⟩
  · cases e2
    obtain ⟨a, ys, rfl, hl, rr⟩ := hx.tuple
    exact call_len_seq pins s σ H _ us Q I rx ⟨a, ys, rfl, .inr (.of hl), by rw [rr.length]; exact q _ H (Nxt.refl t) (.int _)⟩
  · cases e2
theorem e_len (hm : X.mg "len" = none) (ha : DB X T a f) (hg : Gl X "len" := by rfl) (he : starEach [a] X.env = (false, eval a X.env) :: starEach [] X.env := by rfl) : DE X T (.Call (.Name "len" p) [a] [] pos) (unE lenD f) :=
  (e_bi cd_len hm PySem.boot_len (b_cons ha b_nil he) hg (by decide) (by decide) he).of fun _ _ h => un_on1 h
theorem cd_abs : CallR X (.builtin "abs") (rD X.K T (on1 absD)) := by
  intro pins s σ H xs us Q I rx ⟨S, ds, r, t, l, rp, eo, q⟩
  obtain ⟨d, rfl, e2⟩ := on1_some eo
  obtain ⟨x, rfl, hx⟩ := rp.one
  unfold absD at e2
  split at e2
  · cases e2
    obtain rfl := hx.int
    exact call_abs pins s σ H _ us Q I rx ⟨_, rfl, q _ H (Nxt.refl t) (.int _)⟩
  · cases e2
theorem e_abs (hm : X.mg "abs" = none) (ha : DE X T a f) (hg : Gl X "abs" := by rfl) (he : starEach [a] X.env = (false, eval a X.env) :: starEach [] X.env := by rfl) : DE X T (.Call (.Name "abs" p) [a] [] pos) (unE absD f) :=
  (e_bi cd_abs hm (by decide +kernel) (b_cons (e_toB ha) b_nil he) hg (by decide) (by decide) he).of fun _ _ h => un_on1 h
theorem cd_int : CallR X (.type "int") (rD X.K T (on1 intD)) := by
  intro pins s σ H xs us Q I rx ⟨S, ds, r, t, l, rp, eo, q⟩
  obtain ⟨d, rfl, e2⟩ := on1_some eo
  obtain ⟨x, rfl, hx⟩ := rp.one
  unfold intD at e2
  split at e2
  · cases e2
    obtain rfl := hx.int
    exact call_int1 pins s σ H _ us Q I rx (.inl ⟨_, rfl, q _ H (Nxt.refl t) (.int _)⟩)
  · cases e2
    obtain rfl := hx.bool
    exact call_int1 pins s σ H _ us Q I rx (.inr ⟨_, rfl, q _ H (Nxt.refl t) (.int _)⟩)
  · cases e2
theorem e_intOf (hm : X.mg "int" = none) (ha : DE X T a f) (hg : Gl X "int" := by rfl) (he : starEach [a] X.env = (false, eval a X.env) :: starEach [] X.env := by rfl) : DE X T (.Call (.Name "int" p) [a] [] pos) (unE intD f) :=
  (e_bt cd_int hm (by decide +kernel) (b_cons (e_toB ha) b_nil he) hg (by decide) (by decide) he).of fun _ _ h => un_on1 h
theorem cd_max2 (hc : X.calm = true) : CallR X (.builtin "max") (rD X.K T (on2 max2)) := by
  intro pins s σ H xs us Q I rx ⟨S, ds, r, t, l, rp, eo, q⟩
  obtain ⟨d, e, rfl, e2⟩ := on2_some eo
  obtain ⟨x, y, rfl, hx, hy⟩ := rp.two
  unfold max2 at e2
  split at e2
  · cases e2
    obtain rfl := hx.int
    obtain rfl := hy.int
    exact call_max2 hc pins s σ H _ us Q I rx ⟨_, _, rfl, q _ H (Nxt.refl t) (.int _)⟩
  · cases e2
theorem cd_min2 (hc : X.calm = true) : CallR X (.builtin "min") (rD X.K T (on2 min2)) := by
  intro pins s σ H xs us Q I rx ⟨S, ds, r, t, l, rp, eo, q⟩
  obtain ⟨d, e, rfl, e2⟩ := on2_some eo
  obtain ⟨x, y, rfl, hx, hy⟩ := rp.two
  unfold min2 at e2
  split at e2
  · cases e2
    obtain rfl := hx.int
    obtain rfl := hy.int
    exact call_min2 hc pins s σ H _ us Q I rx ⟨_, _, rfl, q _ H (Nxt.refl t) (.int _)⟩
  · cases e2
theorem e_max2 (hm : X.mg "max" = none) (ha : DE X T a f) (hb : DE X T b g) (hg : Gl X "max" := by rfl) (he : starEach [a, b] X.env = (false, eval a X.env) :: starEach [b] X.env := by rfl) (he2 : starEach [b] X.env = (false, eval b X.env) :: starEach [] X.env := by rfl)
    (hc : X.calm = true := by rfl) (hpl : (backTo pos (starEach [b] X.env)).any (·.1) = false := by rfl) : DE X T (.Call (.Name "max" p) [a, b] [] pos) (opE max2 f g) :=
  (e_bi (cd_max2 hc) hm (by decide +kernel) (b_cons (e_toB ha) (b_cons (e_toB hb) b_nil he2) he) hg (by decide) (by decide) he hpl).of fun _ _ h => op_on2 h
theorem e_min2 (hm : X.mg "min" = none) (ha : DE X T a f) (hb : DE X T b g) (hg : Gl X "min" := by rfl) (he : starEach [a, b] X.env = (false, eval a X.env) :: starEach [b] X.env := by rfl) (he2 : starEach [b] X.env = (false, eval b X.env) :: starEach [] X.env := by rfl)
    (hc : X.calm = true := by rfl) (hpl : (backTo pos (starEach [b] X.env)).any (·.1) = false := by rfl) : DE X T (.Call (.Name "min" p) [a, b] [] pos) (opE min2 f g) :=
  (e_bi (cd_min2 hc) hm (by decide +kernel) (b_cons (e_toB ha) (b_cons (e_toB hb) b_nil he2) he) hg (by decide) (by decide) he hpl).of fun _ _ h => op_on2 h
end
end Dm
end

section
set_option Elab.async false
set_option linter.all false
set_option autoImplicit true
set_option maxRecDepth 100000
set_option maxHeartbeats 1000000
/-! DIter: targets, what is walked, list comprehensions. -/
namespace Dm
open PySem PySem.Spec PyProof.Rows L2

/-! ### targets -/
mutual
def Tg.slots : Tg → List Nat
  | .nm i => [i]
  | .tp ts => Tg.slotsAll ts
def Tg.slotsAll : List Tg → List Nat
  | [] => []
  | t :: ts => t.slots ++ Tg.slotsAll ts
end
/-- σ' is σ but for some slots -/
def Upd (js : List Nat) (σ σ' : L2.St) : Prop := σ'.length = σ.length ∧ ∀ j, j ∉ js → σ'[j]? = σ[j]?
theorem Upd.refl (js : List Nat) (σ : L2.St) : Upd js σ σ := ⟨rfl, fun _ _ => rfl⟩
theorem Upd.trans {js ks : List Nat} {σ σ1 σ2 : L2.St} (a : Upd js σ σ1) (b : Upd ks σ1 σ2) : Upd (js ++ ks) σ σ2 := ⟨b.1.trans a.1, fun j h => by
  rw [List.mem_append, not_or] at h
  exact (b.2 j h.2).trans (a.2 j h.1)⟩
theorem Upd.mono {js ks : List Nat} {σ σ1 : L2.St} (a : Upd js σ σ1) (h : ∀ j ∈ js, j ∈ ks) : Upd ks σ σ1 := ⟨a.1, fun j q => a.2 j fun z => q (h j z)⟩
theorem wipe_get (σ : L2.St) : ∀ (vs : List Nat) (j : Nat), (L2.wipe σ vs)[j]? = if j ∈ vs then (if j < σ.length then some none else none) else σ[j]?
  | [], j => by simp [L2.wipe]
  | v :: vs, j => by
    unfold L2.wipe
    by_cases h : v = j
    · subst h
      rw [List.getElem?_set_self', wipe_get σ vs v]
      simp only [List.mem_cons, true_or, if_true]
      by_cases hl : v < σ.length
      · by_cases hv : v ∈ vs
        · simp [hv, hl]
        · simp [hv, hl]
      · by_cases hv : v ∈ vs
        · simp [hv, hl]
        · simp [hv, hl, List.getElem?_eq_none (Nat.le_of_not_lt hl)]
    · rw [List.getElem?_set_ne h, wipe_get σ vs j]
      simp [List.mem_cons, Ne.symm h]
theorem Upd.wipe {js vs : List Nat} {σ σ' : L2.St} (u : Upd js (L2.wipe σ vs) σ') (h : ∀ j ∈ js, j ∈ vs) : L2.wipe σ' vs = L2.wipe σ vs := by
  apply List.ext_getElem?
  intro j
  rw [wipe_get, wipe_get, u.1, wipe_length]
  by_cases hj : j ∈ vs
  · simp [hj]
  · rw [if_neg hj, if_neg hj, u.2 j fun z => hj (h j z), wipe_get, if_neg hj]
def tDG (K : PySem.W.Frag) (T : List Addr) (t : Tg) : TG := fun v σ H Q => ∃ S r d r', EnvOk K T S H σ r ∧ Rp K (mns S H) v d ∧ asg t d r = some r' ∧ ∀ σ', EnvOk K T S H σ' r' → Upd t.slots σ σ' → Q σ' H
def tDGs (K : PySem.W.Frag) (T : List Addr) (ts : List Tg) : TGs := fun vs σ H Q => ∃ S r ds r', EnvOk K T S H σ r ∧ RpAll K (mns S H) vs ds ∧ ds.length = ts.length ∧ asgs ts ds r = some r' ∧ ∀ σ', EnvOk K T S H σ' r' → Upd (Tg.slotsAll ts) σ σ' → Q σ' H
structure DG (X : Cx) (T : List Addr) (e : Expr) (t : Tg) : Prop where
  pg : PG X e (tDG X.K T t)
structure DGs (X : Cx) (T : List Addr) (es : List Expr) (ts : List Tg) : Prop where
  pg : PGs X es (tDGs X.K T ts)
theorem PG.imp {X : Cx} {e : Expr} {t u : TG} (h : PG X e t) (i : ∀ v σ H Q, u v σ H Q → t v σ H Q) : PG X e u := ⟨fun pins s σ H v x Q I r q => h.run pins s σ H v x Q I r (i v σ H Q q)⟩
theorem PGs.imp {X : Cx} {e : List Expr} {t u : TGs} (h : PGs X e t) (i : ∀ v σ H Q, u v σ H Q → t v σ H Q) : PGs X e u := ⟨fun pins s σ H v x Q I r q => h.run pins s σ H v x Q I r (i v σ H Q q)⟩
section
variable {X : Cx} {T : List Addr} {e a b c : Expr} {es rest : List Expr} {f g h : E} {fs : List E} {pos p : Pos}
theorem g_nm (i : Nat) {x : Str} (hN : X.N.Nodup) (hi : X.N[i]? = some x := by rfl) (hx : Loc X.env.scope x := by first | exact Or.inl rfl | exact Or.inr rfl) (hf : X.fn x = true ∨ X.env.scope.names.lookup x = some .local := by first | exact .inl rfl | exact .inr rfl) : DG X T (.Name x pos) (.nm i) :=
  ⟨PG.imp (pg_name hN hi hx hf) fun v σ H Q ⟨S, r, d, r', o, rp, ea, q⟩ => by
    simp only [asg, Option.some.injEq] at ea
    subst ea
    exact q _ (o.setVa rp) ⟨List.length_set, fun j hj => List.getElem?_set_ne fun z => hj (by simp [Tg.slots, z])⟩⟩
theorem gs_nil : DGs X T [] [] := ⟨PGs.imp pgs_nil fun v σ H Q ⟨S, r, ds, r', o, rp, hl, ea, q⟩ => by
  cases ds with
  | nil =>
    cases rp
    simp only [asgs, Option.some.injEq] at ea
    subst ea
    exact ⟨rfl, q σ o (Upd.refl _ _)⟩
  | cons a b => cases hl⟩
theorem gs_cons {t : Tg} {ts : List Tg} (h1 : DG X T e t) (h2 : DGs X T es ts) (hs : (assignEach (e :: es) X.env).map (·.2) = assign e X.env :: (assignEach es X.env).map (·.2) := by rfl) : DGs X T (e :: es) (t :: ts) := ⟨PGs.imp (pgs_cons h1.pg h2.pg hs) fun v σ H Q ⟨S, r, ds, r', o, rp, hl, ea, q⟩ => by
  cases rp with
  | nil => cases hl
  | cons ra rb =>
    rename_i v' vs' d' ds'
    simp only [asgs, Option.bind_eq_bind, Option.bind_eq_some_iff] at ea
    obtain ⟨r1, e1, e2⟩ := ea
    refine ⟨_, _, rfl, S, r, _, r1, o, ra, e1, fun σ1 o1 u1 => ⟨S, r1, _, r', o1, rb, Nat.succ.inj hl, e2, fun σ2 o2 u2 => q σ2 o2 (u1.trans u2)⟩⟩⟩
theorem g_tp {ts : List Tg} {k : Nat} (h : DGs X T es ts) (hc : X.calm = true := by rfl) (hn : (assignEach es X.env).length = ts.length := by rfl) (hst : (assignEach es X.env).findIdx? (·.1) = none := by rfl) : DG X T (.Tuple es k pos) (.tp ts) :=
  ⟨PG.imp (pg_tup hc h.pg hn hst) fun v σ H Q ⟨S, r, d, r', o, rp, ea, q⟩ => by
    unfold asg at ea
    split at ea
    · rename_i ds
      split at ea
      · rename_i hl
        cases rp with
        | tup hH rr => exact ⟨_, _, rfl, .of (mns_some hH).1, rr.length.trans hl.symm, S, r, _, r', o, rr, hl.symm, ea, fun σ' o' u' => q σ' o' u'⟩
      · cases ea
    · cases ea⟩

/-! ### what is walked -/
/-- what may be looked at, or what stays -/
def RpQ (K : PySem.W.Frag) (b : Bool) (S : List Addr) (H : Hp) (v : V) (d : D) : Prop := match b with
  | true => RpB K S H v d
  | false => Rp K (mns S H) v d
theorem RpQ.look {K : PySem.W.Frag} {q : Bool} {S : List Addr} {H : Hp} {v : V} {d : D} (h : RpQ K q S H v d) : RpB K S H v d := by
  cases q with
  | true => exact h
  | false => exact .inl h
theorem RpQ.nxt {K : PySem.W.Frag} {T : List Addr} {q : Bool} {S : List Addr} {H H' : Hp} {v : V} {d : D} (n : Nxt T H H') (h : RpQ K q S H v d) : RpQ K q S H' v d := by
  cases q with
  | true => exact RpB.nxt n h
  | false => exact Rp.nxt n h
/-- a value: looked at (true), or one that stays (false) -/
structure DQ (X : Cx) (T : List Addr) (q : Bool) (e : Expr) (f : E) : Prop where
  pe : PE X e (fun σ H Q => ∃ S r d, EnvOk X.K T S H σ r ∧ f r = some d ∧ ∀ v H', Nxt T H H' → RpQ X.K q S H' v d → Q v H')
theorem q_b (h : DB X T e f) : DQ X T true e f := ⟨h.pe⟩
theorem q_e (h : DE X T e f) : DQ X T false e f := ⟨h.pe⟩
/-- kept values -/
abbrev Kp := List (V × D)
/-- objects that stand as they are -/
abbrev Fxs := List (Addr × HO)
def Fx (fx : Fxs) (S : List Addr) (H : Hp) : Prop := ∀ q ∈ fx, H q.1 = some q.2 ∧ q.1 ∉ S ∧ ∀ ps, q.2 ≠ .tbl ps
theorem Fx.nil {S : List Addr} {H : Hp} : Fx [] S H := fun q h => by cases h
theorem Fx.nxt {T : List Addr} {fx : Fxs} {S : List Addr} {H H' : Hp} (f : Fx fx S H) (n : Nxt T H H') : Fx fx S H' := fun q h => by
  obtain ⟨h1, h2, h3⟩ := f q h
  exact ⟨n.ext _ _ h1 h3, h2, h3⟩
theorem Fx.more {T : List Addr} {fx : Fxs} {S : List Addr} {H H' : Hp} {p : Addr} (f : Fx fx S H) (hp : H p = none) (n : Nxt T H H') : Fx fx (p :: S) H' := fun q h => by
  obtain ⟨h1, h2, h3⟩ := f q h
  refine ⟨n.ext _ _ h1 h3, fun z => ?_, h3⟩
  rcases List.mem_cons.mp z with z | z
  · rw [z, hp] at h1; cases h1
  · exact h2 z
/-- the iterator hands out ds as long as some values are kept -/
def ItOk (K : PySem.W.Frag) (T : List Addr) (kp : Kp) (fx : Fxs) (ds : List D) (J : It) : Prop := ∀ S H, Tabs T H → Live S H → (∀ q ∈ kp, RpB K S H q.1 q.2) → Fx fx S H →
  (∀ i, ds.length ≤ i → J.stop i H) ∧ ∀ i d, ds[i]? = some d → J.go i H ∧ ∀ x H', J.yld i H x H' → Nxt T H H' ∧ Rp K (mns S H') x d
def tDI (K : PySem.W.Frag) (T : List Addr) (q : Bool) (f : I) : TI := fun σ H R => ∃ S r ds, EnvOk K T S H σ r ∧ f r = some ds ∧ ∀ J H' kp fx, Nxt T H H' → (∀ x ∈ kp, RpQ K q S H' x.1 x.2) → Fx fx S H' → ItOk K T kp fx ds J → R J H'
structure DI (X : Cx) (T : List Addr) (q : Bool) (tg : Expr) (e : Expr) (f : I) : Prop where
  pi : PI X tg e (tDI X.K T q f)
theorem PI.imp {tg : Expr} {t u : TI} (h : PI X tg e t) (i : ∀ σ H R, u σ H R → t σ H R) : PI X tg e u := ⟨fun pins s σ H R I q => h.run pins s σ H R I (i σ H R q)⟩
theorem PI.or {tg : Expr} {t u : TI} (h : PI X tg e t) (h' : PI X tg e u) : PI X tg e (fun σ H R => t σ H R ∨ u σ H R) := ⟨fun pins s σ H R I q => q.elim (h.run pins s σ H R I) (h'.run pins s σ H R I)⟩
theorem it_list {K : PySem.W.Frag} {v : V} {ds : List D} {a : Addr} (hv : v = .ref a) : ItOk K T [(v, .list ds)] [] ds (Itl K a) := fun S H t l k _ => by
  obtain ⟨a', xs, e, hl, rr⟩ := (k (v, .list ds) (by simp)).list
  rw [hv] at e
  cases e
  refine ⟨fun i hi => ⟨xs, hl, by rw [rr.length]; exact hi⟩, fun i d hd => ?_⟩
  obtain ⟨x, hx, rx⟩ := rr.get hd
  exact ⟨⟨xs, x, hl, hx⟩, fun y H' ⟨e1, e2⟩ => by
    subst e1
    have := e2 xs hl
    rw [hx] at this
    cases this
    exact ⟨Nxt.refl t, rx⟩⟩
theorem it_tup {K : PySem.W.Frag} {v : V} {ds : List D} {a : Addr} (hv : v = .ref a) : ItOk K T [(v, .tuple ds)] [] ds (Itt K a) := fun S H t l k _ => by
  obtain ⟨a', xs, e, hl, rr⟩ := (k (v, .tuple ds) (by simp)).tuple
  rw [hv] at e
  cases e
  refine ⟨fun i hi => ⟨xs, .of hl, by rw [rr.length]; exact hi⟩, fun i d hd => ?_⟩
  obtain ⟨x, hx, rx⟩ := rr.get hd
  exact ⟨⟨xs, x, .of hl, hx⟩, fun y H' ⟨e1, e2⟩ => by
    subst e1
    have := e2 xs (.of hl)
    rw [hx] at this
    cases this
    exact ⟨Nxt.refl t, rx⟩⟩
theorem seqI_some {f : E} {r : Env} {ds : List D} (h : seqI f r = some ds) : f r = some (.list ds) ∨ f r = some (.tuple ds) := by
  simp only [seqI, Option.bind_eq_bind, Option.bind_eq_some_iff] at h
  obtain ⟨d, h1, h2⟩ := h
  unfold seqD at h2
  split at h2
  · cases h2; exact .inl h1
  · cases h2; exact .inr h1
  · cases h2
theorem i_seq {q : Bool} {tg : Expr} (ha : DQ X T q e f) : DI X T q tg e (seqI f) := ⟨PI.imp (PI.or (pi_list ha.pe) (pi_tup ha.pe)) fun σ H R ⟨S, r, ds, o, ef, k⟩ => by
  rcases seqI_some ef with e1 | e1
  · refine .inl ⟨S, r, _, o, e1, fun v H' n rp => ?_⟩
    obtain ⟨a, xs, rfl, hl, rr⟩ := rp.look.list
    exact ⟨a, rfl, ⟨xs, hl⟩, k (Itl X.K a) H' [(.ref a, .list ds)] [] n (fun x hx => by simp at hx; subst hx; exact rp) Fx.nil (it_list rfl)⟩
  · refine .inr ⟨S, r, _, o, e1, fun v H' n rp => ?_⟩
    obtain ⟨a, xs, rfl, hl, rr⟩ := rp.look.tuple
    exact ⟨a, rfl, ⟨xs, .of hl⟩, k (Itt X.K a) H' [(.ref a, .tuple ds)] [] n (fun x hx => by simp at hx; subst hx; exact rp) Fx.nil (it_tup rfl)⟩⟩
theorem it_range {K : PySem.W.Frag} (lo hi : Int) : ItOk K T [] [] (rangeL lo hi) (Itr lo (hi - lo).toNat) := fun S H t l k _ => by
  have hl : (rangeL lo hi).length = (hi - lo).toNat := by simp [rangeL]
  refine ⟨fun i hi' => by rw [hl] at hi'; exact hi', fun i d hd => ?_⟩
  obtain ⟨h1, h2⟩ := List.getElem?_eq_some_iff.mp hd
  rw [hl] at h1
  refine ⟨h1, fun x H' ⟨e1, e2⟩ => ?_⟩
  subst e1 e2
  refine ⟨Nxt.refl t, ?_⟩
  have : d = .int (lo + (i : Int)) := by
    rw [← h2]
    simp [rangeL]
  rw [this]
  exact .int _
theorem rgI_some {f g : E} {r : Env} {ds : List D} (h : rgI f g r = some ds) : ∃ a b, f r = some (.int a) ∧ g r = some (.int b) ∧ big62 a = true ∧ big62 b = true ∧ ds = rangeL a b := by
  simp only [rgI, Option.bind_eq_bind, Option.bind_eq_some_iff] at h
  obtain ⟨x, h1, y, h2, h3⟩ := h
  split at h3
  · split at h3
    · rename_i a b hb
      cases h3
      obtain ⟨q1, q2⟩ := Bool.and_eq_true_iff.mp hb
      exact ⟨a, b, h1, h2, q1, q2, rfl⟩
    · cases h3
  · cases h3
theorem big_ok {a : Int} (h : big62 a = true) : -(2 ^ 62) ≤ a ∧ a < 2 ^ 62 := of_decide_eq_true h
theorem i_range1 {tg : Expr} {q : Bool} (hm : X.mg "range" = none) (ha : DE X T a f) (hg : Gl X "range" := by rfl) (hs : starEach [a] X.env = [(false, eval a X.env)] := by rfl) : DI X T q tg (.Call (.Name "range" p) [a] [] pos) (rgI (kE (.int 0)) f) :=
  ⟨PI.imp (pi_range1 hg hm (a_cons ha a_nil hs).pa hs) fun σ H R ⟨S, r, ds, o, ef, k⟩ => by
    obtain ⟨i, j, e1, e2, b1, b2, rfl⟩ := rgI_some ef
    cases e1
    refine ⟨S, r, [.int j], o, by simp [argsE, e2], fun vs H' n rp => ?_⟩
    cases rp with
    | cons ra rb =>
      cases ra
      cases rb
      obtain ⟨h1, h2⟩ := big_ok b2
      refine ⟨j, rfl, h1, h2, k (Itr 0 j.toNat) H' [] [] n (fun x hx => by simp at hx) Fx.nil ?_⟩
      have := it_range (K := X.K) (T := T) 0 j
      rw [Int.sub_zero] at this
      exact this⟩
theorem i_range2 {tg : Expr} {q : Bool} (hm : X.mg "range" = none) (ha : DE X T a f) (hb : DE X T b g) (hg : Gl X "range" := by rfl) (hs : starEach [a, b] X.env = [(false, eval a X.env), (false, eval b X.env)] := by rfl) (hs2 : starEach [b] X.env = [(false, eval b X.env)] := by rfl) :
    DI X T q tg (.Call (.Name "range" p) [a, b] [] pos) (rgI f g) :=
  ⟨PI.imp (pi_range2 hg hm (a_cons ha (a_cons hb a_nil hs2) (by rw [hs, hs2])).pa hs hs2) fun σ H R ⟨S, r, ds, o, ef, k⟩ => by
    obtain ⟨i, j, e1, e2, b1, b2, rfl⟩ := rgI_some ef
    refine ⟨S, r, [.int i, .int j], o, by simp [argsE, e1, e2], fun vs H' n rp => ?_⟩
    cases rp with
    | cons ra rb =>
      cases ra
      cases rb with
      | cons ra rb =>
        cases ra
        cases rb
        obtain ⟨h1, h2⟩ := big_ok b1
        obtain ⟨h3, h4⟩ := big_ok b2
        exact ⟨i, j, rfl, ⟨h1, h2, h3, h4⟩, k _ H' [] [] n (fun x hx => by simp at hx) Fx.nil (it_range i j)⟩⟩

/-! ### list comprehensions -/
/-- a clause's tests -/
structure DTs (X : Cx) (T : List Addr) (ifs : List Expr) (f : Dm.T) : Prop where
  pt : PTs X ifs (tDT X.K T f)
theorem PTs.imp {ifs : List Expr} {t u : TT} (h : PTs X ifs t) (i : ∀ σ H Q, u σ H Q → t σ H Q) : PTs X ifs u := ⟨fun pins s σ H Q I q => h.run pins s σ H Q I (i σ H Q q)⟩
theorem ts_nil : DTs X T [] noT := ⟨PTs.imp pts_nil fun σ H Q ⟨S, r, b, o, ef, q⟩ => by cases ef; exact q H (Nxt.refl o.tabs)⟩
theorem ts_one {t : Dm.T} (h : DT X T a t) : DTs X T [a] t := ⟨pts_one h.pt⟩
theorem compL_cons {r : Env} {tg : Tg} {ts : Dm.T} {el : E} {x : D} {xs ys : List D} (h : compL r tg ts el (x :: xs) = some ys) :
    ∃ r1 k, asg tg x r = some r1 ∧ ts r1 = some k ∧ if k = true then ∃ y ys', el r1 = some y ∧ compL r tg ts el xs = some ys' ∧ ys = y :: ys' else compL r tg ts el xs = some ys := by
  simp only [compL, Option.bind_eq_bind, Option.bind_eq_some_iff] at h
  obtain ⟨r1, h1, k, h2, h3⟩ := h
  refine ⟨r1, k, h1, h2, ?_⟩
  cases k with
  | true =>
    simp only [if_true, Option.bind_eq_some_iff] at h3 ⊢
    obtain ⟨y, h4, ys', h5, h6⟩ := h3
    exact ⟨y, ys', h4, h5, (Option.some.inj h6).symm⟩
  | false => simpa using h3
theorem Live.cons {S : List Addr} {H : Hp} {p : Addr} {o : HO} (l : Live S H) (h : H p = some o) (n : NT o) : Live (p :: S) H := fun a ha => by
  rcases List.mem_cons.mp ha with rfl | ha
  · exact ⟨o, h, n⟩
  · exact l a ha
theorem mns_upd {S : List Addr} {H : Hp} {p : Addr} {o : HO} : mns (p :: S) (upd H p o) = mns (p :: S) H := by
  funext a
  by_cases h : a ∈ p :: S
  · rw [mns_none h, mns_none h]
  · rw [mns_of h, mns_of h]
    exact upd_ne fun z => h (by rw [z]; exact List.mem_cons_self)
/-- the def's own at another address is as it was -/
theorem Own.other {K : PySem.W.Frag} {S : List Addr} {H : Hp} {p q : Addr} {o : HO} {d : D} (h : Own K (p :: S) H q d) (hne : q ≠ p) : Own K (p :: S) (upd H p o) q d := by
  cases h with
  | lst e r => exact .lst ((upd_ne hne).trans e) (by rw [mns_upd]; exact r)
  | dk e r => exact .dk ((upd_ne hne).trans e) (by rw [mns_upd]; exact r)
  | dt e r => exact .dt ((upd_ne hne).trans e) (by rw [mns_upd]; exact r)
/-- names do not lean on a new list -/
theorem EnvOk.more {K : PySem.W.Frag} {S : List Addr} {H H' : Hp} {σ : L2.St} {r : Env} {p : Addr} {o : HO} (e : EnvOk K T S H σ r) (hp : H p = none) (n : Nxt T H H') (h : H' p = some o) (nt : NT o) : EnvOk K T (p :: S) H' σ r := by
  refine ⟨n.tabs, (e.live.ext n.ext).cons h nt, e.len, fun i v sl a b => ?_, e.inj⟩
  have l := le_new e.live hp n.le
  have q := e.slot i v sl a b
  cases sl with
  | no => exact q
  | va d => obtain ⟨x, h1, h2⟩ := q; exact ⟨x, h1, h2.le l⟩
  | ow d =>
    obtain ⟨p', h1, h2, h3⟩ := q
    refine ⟨p', h1, List.mem_cons_of_mem _ h2, ?_⟩
    cases h3 with
    | lst e1 r1 => exact .lst (n.ext _ _ e1 fun _ z => by cases z) (r1.le l)
    | dk e1 r1 => exact .dk (n.ext _ _ e1 fun _ z => by cases z) (r1.le l)
    | dt e1 r1 => exact .dt (n.ext _ _ e1 fun _ z => by cases z) (r1.le l)
/-- nor on how it grows -/
theorem EnvOk.grown {K : PySem.W.Frag} {S : List Addr} {H : Hp} {σ : L2.St} {r : Env} {p : Addr} {o u : HO} (e : EnvOk K T (p :: S) H σ r) (h : H p = some u) (nu : NT u) (nt : NT o) (own : ∀ (i : Nat) d, r[i]? = some (.ow d) → σ[i]? ≠ some (some (.ref p))) : EnvOk K T (p :: S) (upd H p o) σ r := by
  have keep : ∀ b, b ≠ p → upd H p o b = H b := fun b hb => upd_ne hb
  refine ⟨fun P hP => ?_, fun a ha => ?_, e.len, fun i v sl a b => ?_, e.inj⟩
  · obtain ⟨ps, e1, e2⟩ := e.tabs P hP
    refine ⟨ps, ?_, e2⟩
    rw [keep P fun z => by subst z; rw [h] at e1; cases e1; exact nu.tbl _ rfl]
    exact e1
  · by_cases hb : a = p
    · subst hb; exact ⟨o, upd_same, nt⟩
    · obtain ⟨o', h1, h2⟩ := e.live a ha
      exact ⟨o', (keep a hb).trans h1, h2⟩
  · have q := e.slot i v sl a b
    cases sl with
    | no => exact q
    | va d => obtain ⟨x, h1, h2⟩ := q; exact ⟨x, h1, by rw [mns_upd]; exact h2⟩
    | ow d =>
      obtain ⟨p', h1, h2, h3⟩ := q
      have hne : p' ≠ p := fun z => by subst z h1; exact own i d b a
      exact ⟨p', h1, h2, h3.other hne⟩
end
end Dm
end

section
set_option Elab.async false
set_option linter.all false
set_option autoImplicit true
set_option maxRecDepth 100000
set_option maxHeartbeats 1000000
/-! DComp: list comprehensions. -/
namespace Dm
open PySem PySem.Spec PyProof.Rows L2
section
variable {X : Cx} {T : List Addr} {e a b c : Expr} {es rest : List Expr} {f g h : E} {fs : List E} {pos p : Pos}
theorem Own.more {K : PySem.W.Frag} {S : List Addr} {H H' : Hp} {p q : Addr} {d : D} (o : Own K S H q d) (lv : Live S H) (hp : H p = none) (n : Nxt T H H') : Own K (p :: S) H' q d := by
  have l := le_new lv hp n.le
  cases o with
  | lst e1 r1 => exact .lst (n.ext _ _ e1 fun _ z => by cases z) (r1.le l)
  | dk e1 r1 => exact .dk (n.ext _ _ e1 fun _ z => by cases z) (r1.le l)
  | dt e1 r1 => exact .dt (n.ext _ _ e1 fun _ z => by cases z) (r1.le l)
theorem RpQ.more {K : PySem.W.Frag} {k : Bool} {S : List Addr} {H H' : Hp} {p : Addr} {v : V} {d : D} (o : RpQ K k S H v d) (lv : Live S H) (hp : H p = none) (n : Nxt T H H') : RpQ K k (p :: S) H' v d := by
  have l := le_new lv hp n.le
  cases k with
  | false => exact Rp.le l o
  | true =>
    rcases o with o | ⟨q, e, o⟩
    · exact .inl (Rp.le l o)
    · exact .inr ⟨q, e, o.more lv hp n⟩
/-- a new list grows -/
theorem Nxt.grow {H H' : Hp} {p : Addr} {o u : HO} (n : Nxt T H H') (hp : H p = none) (h : H' p = some u) (nu : NT u) : Nxt T H (upd H' p o) := by
  refine ⟨fun b x e nt => ?_, fun P hP => ?_, fun b ps e => ?_⟩
  · rw [upd_ne (ne_of_none e hp)]; exact n.ext b x e nt
  · obtain ⟨ps, e1, e2⟩ := n.tabs P hP
    exact ⟨ps, by rw [upd_ne fun z => by subst z; rw [h] at e1; cases e1; exact nu.tbl _ rfl]; exact e1, e2⟩
  · obtain ⟨ps', e'⟩ := n.tbl b ps e
    exact ⟨ps', by rw [upd_ne (ne_of_none e hp)]; exact e'⟩
theorem compL_len {r : Env} {tg : Tg} {ts : Dm.T} {el : E} : ∀ {ds ys : List D}, compL r tg ts el ds = some ys → ys.length ≤ ds.length
  | [], ys, h => by simp [compL] at h; subst h; simp
  | x :: xs, ys, h => by
    obtain ⟨r1, k, h1, h2, h3⟩ := compL_cons h
    cases k with
    | true =>
      obtain ⟨y, ys', h4, h5, rfl⟩ := by simpa using h3
      have := compL_len h5
      simp only [List.length_cons]; omega
    | false =>
      have := compL_len (by simpa using h3)
      simp only [List.length_cons]; omega
/-- the reading of a list comprehension -/
theorem lc_read {K : PySem.W.Frag} {q : Bool} {it : I} {t : Tg} {ts : Dm.T} {el : E} {own : List Nat} (hw : ∀ j ∈ t.slots, j ∈ own) {σ : L2.St} {H : Hp} {Q : VK} {S : List Addr} {r : Env} {d : D} (o : EnvOk K T S H σ r) (ef : lstI (compI own it t ts el) r = some d)
    (k : ∀ p H', H p = none → Nxt T H H' → Own K (p :: S) H' p d → Q (.ref p) H') : tLc (tDI K T q it) (tDG K T t) (tDT K T ts) (tDE K T el) own σ H Q := by
  simp only [lstI, compI, Option.bind_eq_bind, Option.bind_eq_some_iff] at ef
  obtain ⟨ys, ⟨ds, e1, zs, e2, e3⟩, e4⟩ := ef
  unfold fitL at e3
  split at e3
  · rename_i hz
    have e3 := Option.some.inj e3
    subst e3
    cases e4
    have hz := lenOk_le hz
    refine ⟨S, r, ds, o, e1, fun J H1 kp fx n1 hk hfx hit D hD => ?_⟩
    have lv1 : Live S H1 := o.live.ext n1.ext
    have hD0 : H D = none := n1.free hD
    let W : Nat → Nat → Hp → Prop := fun i m Hc => ∃ acc pre post, i + m = ds.length ∧ Hc D = some (.lst acc) ∧ RpAll K (mns (D :: S) Hc) acc pre ∧ compL (wipeE r own) t ts el (ds.drop i) = some post ∧ zs = pre ++ post ∧ Nxt T H1 Hc
    refine ⟨W, ⟨ds.length, [], [], zs, by omega, upd_same, .nil, by simpa using e2, rfl, nxt_new n1.tabs hD⟩, ?_⟩
    rintro i m Hc ⟨acc, pre, post, him, hc, ra, ec, ez, nc⟩
    have eo : EnvOk K T (D :: S) Hc σ r := (o.nxt n1).more hD nc hc (NT.lst acc)
    have ew := eo.wipe own
    have kc : ∀ x ∈ kp, RpB K (D :: S) Hc x.1 x.2 := fun x hx => ((hk x hx).more lv1 hD nc).look
    obtain ⟨st, go⟩ := hit (D :: S) Hc eo.tabs eo.live kc (hfx.more hD nc)
    by_cases hi : ds.length ≤ i
    · refine .inl ⟨st i hi, ?_⟩
      rw [List.drop_eq_nil_of_le hi] at ec
      simp only [compL, Option.some.injEq] at ec
      subst ec
      rw [List.append_nil] at ez
      subst ez
      exact k D Hc hD0 (n1.trans nc) (.lst hc ra)
    · have hi' : i < ds.length := Nat.lt_of_not_le hi
      have hx : ds[i]? = some ds[i] := List.getElem?_eq_getElem hi'
      obtain ⟨g1, g2⟩ := go i _ hx
      rw [List.drop_eq_getElem_cons hi'] at ec
      obtain ⟨r1, b, f1, f2, f3⟩ := compL_cons ec
      refine .inr ⟨g1, fun H' => W (i + 1) (m - 1) H', fun H' w' => ⟨m - 1, by omega, w'⟩, fun x H2 y => ?_⟩
      obtain ⟨n2, rx⟩ := g2 x H2 y
      refine ⟨D :: S, _, _, r1, ew.nxt n2, rx, f1, fun σ' o' u' => ⟨u'.wipe hw, D :: S, r1, b, o', f2, fun H3 n3 => ?_⟩⟩
      have hc3 : H3 D = some (.lst acc) := n3.ext _ _ (n2.ext _ _ hc fun _ z => by cases z) fun _ z => by cases z
      cases b with
      | false =>
        rw [if_neg Bool.false_ne_true] at f3
        show W (i + 1) (m - 1) H3
        exact ⟨acc, pre, post, by omega, hc3, ra.le (le_mns (n2.trans n3).le), f3, ez, nc.trans (n2.trans n3)⟩
      | true =>
        rw [if_pos rfl] at f3
        show tDE K T el σ' H3 _
        obtain ⟨y', ys', g3, g4, rfl⟩ := f3
        refine ⟨D :: S, r1, y', o'.nxt n3, g3, fun v H4 n4 rv => ?_⟩
        have hc4 : H4 D = some (.lst acc) := n4.ext _ _ hc3 fun _ z => by cases z
        refine ⟨acc, hc4, ?_, acc ++ [v], pre ++ [y'], ys', by omega, upd_same, ?_, g4, by rw [ez]; simp, ?_⟩
        · have h1 := ra.length
          have h2 : zs.length = pre.length + (ys'.length + 1) := by rw [ez]; simp
          omega
        · rw [mns_upd]
          exact (ra.le (le_mns ((n2.trans n3).trans n4).le)).append (.cons rv .nil)
        · exact (nc.trans ((n2.trans n3).trans n4)).grow hD hc4 (NT.lst _)
  · cases e3
theorem f_lc {elt tg iter : Expr} {ifs : List Expr} {scope : Scope} {own : List (Str × Nat)} {q : Bool} {it : I} {t : Tg} {ts : Dm.T} {el : E} (hc : X.calm = true) (hN : X.N.Nodup) (hi : DI X T q tg iter it) (ok : BlkOk X.N X.env.scope scope own)
    (hg : ∀ (s : Shared) (H : Hp) (C : Addr) (cl : List (Str × Addr)) (fp : List Addr), DG (X.blk s H scope (compEnvC scope cl C X.env) fp) T tg t) (ht : ∀ (s : Shared) (H : Hp) (C : Addr) (cl : List (Str × Addr)) (fp : List Addr), DTs (X.blk s H scope (compEnvC scope cl C X.env) fp) T ifs ts)
    (he : ∀ (s : Shared) (H : Hp) (C : Addr) (cl : List (Str × Addr)) (fp : List Addr), DE (X.blk s H scope (compEnvC scope cl C X.env) fp) T elt el) (hw : ∀ j ∈ t.slots, j ∈ own.map (·.2) := by decide) (hs : ∀ x, foldedSetIterable iter X.env x = pure x := by intro _; rfl) :
    DF X T (.ListComp elt [⟨tg, iter, ifs, 0⟩] scope pos) (lstI (compI (own.map (·.2)) it t ts el)) :=
  ⟨PE.imp (pe_lc hc hN hi.pi ok (fun s H C cl fp => (hg s H C cl fp).pg) (fun s H C cl fp => (ht s H C cl fp).pt) (fun s H C cl fp => (he s H C cl fp).pe) hs) fun σ H Q ⟨S, r, d, o, ef, k⟩ => lc_read hw o ef k⟩
end
end Dm
end

section
set_option Elab.async false
set_option linter.all false
set_option autoImplicit true
set_option maxRecDepth 100000
set_option maxHeartbeats 1000000
/-! DStmt: statements. -/
namespace Dm
open PySem PySem.Spec PyProof.Rows L2

/-! ### what a statement leaves -/
structure Aft (T O S : List Addr) (H : Hp) (S' : List Addr) (H' : Hp) : Prop where
  le : Le (mns S H) (mns S' H')
  new : ∀ a ∈ S', a ∈ S ∨ H a = none
  ext : ∀ b o, H b = some o → (b ∈ O ∨ b ∉ S) → (∀ ps, o ≠ .tbl ps) → H' b = some o
  tbl : ∀ b ps, H b = some (.tbl ps) → ∃ ps', H' b = some (.tbl ps')
  tabs : Tabs T H'
  ex : ∀ b, H' b = none → H b = none
section
variable {T O S S1 S2 : List Addr} {H H1 H2 : Hp}
theorem Aft.refl (t : Tabs T H) : Aft T O S H S H := ⟨Le.refl _, fun a h => .inl h, fun _ _ e _ _ => e, fun _ ps e => ⟨ps, e⟩, t, fun _ e => e⟩
theorem Aft.trans (a : Aft T O S H S1 H1) (b : Aft T O S1 H1 S2 H2) : Aft T O S H S2 H2 := by
  refine ⟨a.le.trans b.le, fun c h => ?_, fun c o e h nt => ?_, fun c ps e => ?_, b.tabs, fun c e => a.ex c (b.ex c e)⟩
  · rcases b.new c h with h | h
    · exact a.new c h
    · exact .inr (a.ex c h)
  · refine b.ext c o (a.ext c o e h nt) ?_ nt
    rcases h with h | h
    · exact .inl h
    · refine .inr fun z => ?_
      rcases a.new c z with z | z
      · exact h z
      · rw [e] at z; cases z
  · obtain ⟨ps', e'⟩ := a.tbl c ps e
    exact b.tbl c ps' e'
theorem Nxt.aft (n : Nxt T H H1) : Aft T O S H S H1 := ⟨le_mns n.le, fun a h => .inl h, fun b o e _ nt => n.ext b o e nt, n.tbl, n.tabs, fun _ e => n.free e⟩
/-- a new own one -/
theorem Nxt.aftNew {p : Addr} (n : Nxt T H H1) (l : Live S H) (hp : H p = none) : Aft T O S H (p :: S) H1 := ⟨le_new l hp n.le, fun a h => by
  rcases List.mem_cons.mp h with rfl | h
  · exact .inr hp
  · exact .inl h, fun b o e _ nt => n.ext b o e nt, n.tbl, n.tabs, fun _ e => n.free e⟩
/-- an own one is written -/
theorem aft_upd {p : Addr} {u o : HO} (t : Tabs T H) (hp : p ∈ S) (hO : p ∉ O) (h : H p = some u) (nu : NT u) : Aft T O S H S (upd H p o) := by
  have hne : ∀ b, b ≠ p → upd H p o b = H b := fun b hb => upd_ne hb
  refine ⟨?_, fun a h => .inl h, fun b x e hb nt => ?_, fun b ps e => ?_, fun P hP => ?_, fun b e => ?_⟩
  · have : mns S (upd H p o) = mns S H := by
      funext a
      by_cases ha : a ∈ S
      · rw [mns_none ha, mns_none ha]
      · rw [mns_of ha, mns_of ha]; exact hne a fun z => ha (by rw [z]; exact hp)
    rw [this]; exact Le.refl _
  · rw [hne b]; exact e
    rintro rfl
    rcases hb with hb | hb
    · exact hO hb
    · exact hb hp
  · refine ⟨ps, ?_⟩
    rw [hne b]; exact e
    rintro rfl
    rw [h] at e; cases e; exact nu.tbl _ rfl
  · obtain ⟨ps, e1, e2⟩ := t P hP
    refine ⟨ps, ?_, e2⟩
    rw [hne P]; exact e1
    rintro rfl
    rw [h] at e1; cases e1; exact nu.tbl _ rfl
  · by_cases hb : b = p
    · subst hb; rw [upd_same] at e; cases e
    · rw [hne b hb] at e; exact e
/-- an own one is given up -/
theorem aft_sub (t : Tabs T H) (h : ∀ a ∈ S1, a ∈ S) : Aft T O S H S1 H := ⟨le_sub h, fun a m => .inl (h a m), fun _ _ e _ _ => e, fun _ ps e => ⟨ps, e⟩, t, fun _ e => e⟩
theorem Fx.aft {fx : Fxs} (f : Fx fx S H) (a : Aft T O S H S1 H1) : Fx fx S1 H1 := fun q h => by
  obtain ⟨h1, h2, h3⟩ := f q h
  refine ⟨a.ext _ _ h1 (.inr h2) h3, fun z => ?_, h3⟩
  rcases a.new _ z with z | z
  · exact h2 z
  · rw [h1] at z; cases z
/-- at the end of a def -/
theorem Aft.nxt (a : Aft T O O H S1 H1) : Nxt T H H1 := ⟨fun b o e nt => a.ext b o e (Classical.em _) nt, a.tabs, a.tbl⟩
end
structure SOk (K : PySem.W.Frag) (T O S : List Addr) (H : Hp) (σ : L2.St) (r : Env) : Prop where
  env : EnvOk K T S H σ r
  sub : ∀ a ∈ O, a ∈ S
  own : ∀ (i : Nat) (d : D) (p : Addr), r[i]? = some (.ow d) → σ[i]? = some (some (.ref p)) → p ∉ O
def Post (K : PySem.W.Frag) (T O S : List Addr) (H : Hp) (Z : Ends) : Res → Prop
  | .nx r => ∀ S' σ' H', SOk K T O S' H' σ' r → Aft T O S H S' H' → Z.nx σ' H'
  | .bk r => ∀ S' σ' H', SOk K T O S' H' σ' r → Aft T O S H S' H' → Z.bk σ' H'
  | .ct r => ∀ S' σ' H', SOk K T O S' H' σ' r → Aft T O S H S' H' → Z.ct σ' H'
  | .rt d => ∀ v S' H', Aft T O S H S' H' → Rp K (mns O H') v d → Z.rt v H'
theorem Post.after {K : PySem.W.Frag} {T O S S1 : List Addr} {H H1 : Hp} {Z : Ends} {x : Res} (p : Post K T O S H Z x) (a : Aft T O S H S1 H1) : Post K T O S1 H1 Z x := by
  cases x with
  | nx r => exact fun S' σ' H' o b => p S' σ' H' o (a.trans b)
  | bk r => exact fun S' σ' H' o b => p S' σ' H' o (a.trans b)
  | ct r => exact fun S' σ' H' o b => p S' σ' H' o (a.trans b)
  | rt d => exact fun v S' H' b rp => p v S' H' (a.trans b) rp
def tDS (K : PySem.W.Frag) (T : List Addr) (f : Dm.S) : TS := fun Z σ H => ∃ O S r x, SOk K T O S H σ r ∧ f r = some x ∧ Post K T O S H Z x
structure DS (X : Cx) (T : List Addr) (st : Stmt) (f : Dm.S) : Prop where
  ps : PS X st (tDS X.K T f)
structure DSs (X : Cx) (T : List Addr) (sts : List Stmt) (f : Dm.S) : Prop where
  ps : PSs X sts (tDS X.K T f)
section
variable {X : Cx} {T : List Addr} {e a b c : Expr} {es rest : List Expr} {f g h : E} {fs : List E} {pos p : Pos} {st : Stmt} {sts : List Stmt} {F G : Dm.S} {Fs : List Dm.S}
theorem SOk.nxt {K : PySem.W.Frag} {O S : List Addr} {H H' : Hp} {σ : L2.St} {r : Env} (o : SOk K T O S H σ r) (n : Nxt T H H') : SOk K T O S H' σ r := ⟨o.env.nxt n, o.sub, o.own⟩
theorem ss_nil : DSs X T [] (blk []) := ⟨PSs.imp pss_nil fun Z σ H ⟨O, S, r, x, o, ef, q⟩ => by
  cases ef
  exact q S σ H o (Aft.refl o.env.tabs)⟩
theorem ss_cons (h1 : DS X T st F) (h2 : DSs X T sts (blk Fs)) : DSs X T (st :: sts) (blk (F :: Fs)) := ⟨PSs.imp (pss_cons h1.ps h2.ps) fun Z σ H ⟨O, S, r, x, o, ef, q⟩ => by
  simp only [blk, Option.bind_eq_bind, Option.bind_eq_some_iff] at ef
  obtain ⟨y, e1, e2⟩ := ef
  refine ⟨O, S, r, y, o, e1, ?_⟩
  cases y with
  | nx r1 => exact fun S' σ' H' o' a' => ⟨O, S', r1, x, o', e2, q.after a'⟩
  | bk r1 => cases e2; exact q
  | ct r1 => cases e2; exact q
  | rt d => cases e2; exact q⟩
theorem s_pass : DS X T (.Pass pos) sPass := ⟨PS.imp ps_pass fun Z σ H ⟨O, S, r, x, o, ef, q⟩ => by cases ef; exact q S σ H o (Aft.refl o.env.tabs)⟩
theorem s_brk : DS X T (.Break pos) sBrk := ⟨PS.imp ps_break fun Z σ H ⟨O, S, r, x, o, ef, q⟩ => by cases ef; exact q S σ H o (Aft.refl o.env.tabs)⟩
theorem s_cnt : DS X T (.Continue pos) sCnt := ⟨PS.imp ps_continue fun Z σ H ⟨O, S, r, x, o, ef, q⟩ => by cases ef; exact q S σ H o (Aft.refl o.env.tabs)⟩
theorem s_if {t : Dm.T} {ss ts : List Stmt} (hc : DT X T c t) (ha : DSs X T ss F) (hb : DSs X T ts G) : DS X T (.If c ss ts pos) (sIf t F G) := ⟨PS.imp (ps_if hc.pt ha.ps hb.ps) fun Z σ H ⟨O, S, r, x, o, ef, q⟩ => by
  simp only [sIf, Option.bind_eq_bind, Option.bind_eq_some_iff] at ef
  obtain ⟨k, e1, e2⟩ := ef
  refine ⟨S, r, k, o.env, e1, fun H1 n1 => ?_⟩
  cases k with
  | true => exact ⟨O, S, r, x, o.nxt n1, by simpa using e2, q.after n1.aft⟩
  | false => exact ⟨O, S, r, x, o.nxt n1, by simpa using e2, q.after n1.aft⟩⟩
theorem s_ret (ha : DE X T a f) : DS X T (.Return (some a) pos) (sRet f) := ⟨PS.imp (ps_ret ha.pe) fun Z σ H ⟨O, S, r, x, o, ef, q⟩ => by
  simp only [sRet, Option.bind_eq_bind, Option.bind_eq_some_iff] at ef
  obtain ⟨d, e1, e2⟩ := ef
  cases e2
  exact ⟨S, r, d, o.env, e1, fun v H1 n1 rp => q v S H1 n1.aft (Rp.le (le_sub o.sub) rp)⟩⟩
/-- the own list of a name -/
theorem s_retO (i : Nat) {x : Str} (hN : X.N[i]? = some x := by rfl) (hv : Vis X.env.scope x := by first | exact Or.inl rfl | exact Or.inr (Or.inl rfl) | exact Or.inr (Or.inr rfl)) (hd : (x == ("__debug__" : Str)) = false := by decide)
    (hcd : (x == ("__classdict__" : Str)) = false := by decide) : DS X T (.Return (some (.Name x p)) pos) (sRet (bE i)) := ⟨PS.imp (ps_ret (pe_var hN hv hd hcd)) fun Z σ H ⟨O, S, r, y, o, ef, q⟩ => by
  simp only [sRet, Option.bind_eq_bind, Option.bind_eq_some_iff] at ef
  obtain ⟨d, e1, e2⟩ := ef
  cases e2
  unfold bE at e1
  split at e1
  · rename_i d' hd'
    cases e1
    obtain ⟨v, e1, x, e2, rp⟩ := o.env.at hd'
    subst e2
    exact ⟨x, e1, q x S H (Aft.refl o.env.tabs) (Rp.le (le_sub o.sub) rp)⟩
  · rename_i d' hd'
    cases e1
    obtain ⟨v, e1, p', e2, hp, ow⟩ := o.env.at hd'
    subst e2
    exact ⟨_, e1, q _ S H (Aft.refl o.env.tabs) (ow.rp (o.own i _ _ hd' e1) o.sub)⟩
  · cases e1⟩
theorem s_retN : DS X T (.Return none pos) (sRet (kE .none)) := ⟨PS.imp ps_retN fun Z σ H ⟨O, S, r, x, o, ef, q⟩ => by
  cases ef
  exact q .non S H (Aft.refl o.env.tabs) .non⟩
theorem s_expr (ha : DE X T a f) (hs : swapsWith a none pos.line X.env = pure false := by rfl) : DS X T (.Expr a pos) (sExpr f) := ⟨PS.imp (ps_expr ha.pe hs) fun Z σ H ⟨O, S, r, x, o, ef, q⟩ => by
  simp only [sExpr, Option.bind_eq_bind, Option.bind_eq_some_iff] at ef
  obtain ⟨d, e1, e2⟩ := ef
  cases e2
  exact ⟨S, r, d, o.env, e1, fun v H1 n1 rp => q S σ H1 (o.nxt n1) n1.aft⟩⟩
mutual
theorem asg_ow : ∀ (t : Tg) {d : D} {r r' : Env} {i : Nat} {x : D}, asg t d r = some r' → r'[i]? = some (.ow x) → r[i]? = some (.ow x) ∧ i ∉ t.slots
  | .nm j, d, r, r', i, x, h, e => by
    simp only [asg, Option.some.injEq] at h
    subst h
    have hne : j ≠ i := fun z => by
      subst z
      obtain ⟨h1, h2⟩ := List.getElem?_eq_some_iff.mp e
      rw [List.getElem_set_self] at h2; cases h2
    rw [List.getElem?_set_ne hne] at e
    exact ⟨e, by simp [Tg.slots]; exact fun z => hne z.symm⟩
  | .tp ts, d, r, r', i, x, h, e => by
    unfold asg at h
    split at h
    · split at h
      · exact asgs_own ts h e
      · cases h
    · cases h
theorem asgs_own : ∀ (ts : List Tg) {ds : List D} {r r' : Env} {i : Nat} {x : D}, asgs ts ds r = some r' → r'[i]? = some (.ow x) → r[i]? = some (.ow x) ∧ i ∉ Tg.slotsAll ts
  | [], ds, r, r', i, x, h, e => by
    simp only [asgs, Option.some.injEq] at h
    subst h
    exact ⟨e, by simp [Tg.slotsAll]⟩
  | t :: ts, [], r, r', i, x, h, e => by cases h
  | t :: ts, d :: ds, r, r', i, x, h, e => by
    simp only [asgs, Option.bind_eq_bind, Option.bind_eq_some_iff] at h
    obtain ⟨r1, h1, h2⟩ := h
    obtain ⟨e1, n1⟩ := asgs_own ts h2 e
    obtain ⟨e2, n2⟩ := asg_ow t h1 e1
    exact ⟨e2, by simp [Tg.slotsAll]; exact ⟨n2, n1⟩⟩
end
theorem SOk.asg {K : PySem.W.Frag} {O S : List Addr} {H H' : Hp} {σ σ' : L2.St} {r r' : Env} {t : Tg} {d : D} (o : SOk K T O S H σ r) (h : asg t d r = some r') (e : EnvOk K T S H' σ' r') (u : Upd t.slots σ σ') : SOk K T O S H' σ' r' := ⟨e, o.sub, fun i x q h1 h2 => by
  obtain ⟨h3, h4⟩ := asg_ow t h h1
  rw [u.2 i h4] at h2
  exact o.own i x q h3 h2⟩
theorem s_asg {tg : Expr} {t : Tg} (ha : DE X T a f) (hg : DG X T tg t) (hs : swapsWithSole [tg] a pos.line X.env = pure false := by rfl) (hw : swappedStores [tg] a X.env = pure none := by rfl)
    (h1 : (assignEach [tg] X.env).map (·.2) = [assign tg X.env] := by rfl) : DS X T (.Assign [tg] a pos) (sAsg t f) := ⟨PS.imp (ps_asg ha.pe hg.pg hs hw h1) fun Z σ H ⟨O, S, r, y, o, ef, q⟩ => by
  simp only [sAsg, Option.bind_eq_bind, Option.bind_eq_some_iff] at ef
  obtain ⟨d, e1, r', e2, e3⟩ := ef
  cases e3
  exact ⟨S, r, d, o.env, e1, fun v H1 n1 rp => ⟨S, r, d, r', o.env.nxt n1, rp, e2, fun σ' o' u' => q S σ' H1 (o.asg e2 o' u') n1.aft⟩⟩⟩
/-- a name: an own one from now on -/
theorem SOk.setOw {K : PySem.W.Frag} {O S : List Addr} {H : Hp} {σ : L2.St} {r : Env} {q : Addr} {d : D} (i : Nat) (o : SOk K T O S H σ r) (hq : q ∈ S) (hO : q ∉ O) (ow : Own K S H q d) (hne : ∀ j x, j ≠ i → r[j]? = some (.ow x) → σ[j]? ≠ some (some (.ref q))) :
    SOk K T O S H (σ.set i (some (.ref q))) (r.set i (.ow d)) := by
  refine ⟨⟨o.env.tabs, o.env.live, by rw [List.length_set, List.length_set]; exact o.env.len, fun j v sl a b => ?_, fun j k p' x y a b c d' => ?_⟩, o.sub, fun j x p' a b => ?_⟩
  · by_cases hj : i = j
    · subst hj
      obtain ⟨h1, e1⟩ := List.getElem?_eq_some_iff.mp a
      obtain ⟨h2, e2⟩ := List.getElem?_eq_some_iff.mp b
      rw [List.getElem_set_self] at e1 e2
      subst e1 e2
      exact ⟨q, rfl, hq, ow⟩
    · rw [List.getElem?_set_ne hj] at a b
      exact o.env.slot j v sl a b
  · by_cases hj : i = j <;> by_cases hk : i = k
    · exact hj.symm.trans hk
    · exfalso
      subst hj
      rw [List.getElem?_set_ne hk] at b d'
      obtain ⟨h1, e1⟩ := List.getElem?_eq_some_iff.mp c
      rw [List.getElem_set_self] at e1
      cases e1
      exact hne k y (Ne.symm hk) b d'
    · exfalso
      subst hk
      rw [List.getElem?_set_ne hj] at a c
      obtain ⟨h1, e1⟩ := List.getElem?_eq_some_iff.mp d'
      rw [List.getElem_set_self] at e1
      cases e1
      exact hne j x (Ne.symm hj) a c
    · rw [List.getElem?_set_ne hj] at a c
      rw [List.getElem?_set_ne hk] at b d'
      exact o.env.inj j k p' x y a b c d'
  · by_cases hj : i = j
    · subst hj
      obtain ⟨h1, e1⟩ := List.getElem?_eq_some_iff.mp b
      rw [List.getElem_set_self] at e1
      cases e1
      exact hO
    · rw [List.getElem?_set_ne hj] at a b
      exact o.own j x p' a b
theorem SOk.more {K : PySem.W.Frag} {O S : List Addr} {H H' : Hp} {σ : L2.St} {r : Env} {q : Addr} {d : D} (o : SOk K T O S H σ r) (hp : H q = none) (n : Nxt T H H') (ow : Own K (q :: S) H' q d) : SOk K T O (q :: S) H' σ r := by
  refine ⟨?_, fun a h => List.mem_cons_of_mem _ (o.sub a h), o.own⟩
  cases ow with
  | lst e _ => exact o.env.more hp n e (NT.lst _)
  | dk e _ => exact o.env.more hp n e (NT.dK _)
  | dt e _ => exact o.env.more hp n e (NT.dT _)
theorem SOk.newOw {K : PySem.W.Frag} {O S : List Addr} {H H' : Hp} {σ : L2.St} {r : Env} {q : Addr} {d : D} (i : Nat) (o : SOk K T O S H σ r) (hp : H q = none) (n : Nxt T H H') (ow : Own K (q :: S) H' q d) : SOk K T O (q :: S) H' (σ.set i (some (.ref q))) (r.set i (.ow d)) := by
  refine (o.more hp n ow).setOw i List.mem_cons_self (fun z => o.env.live.new hp (o.sub q z)) ow fun j x _ h1 h2 => ?_
  obtain ⟨v, e1, p', e2, m, _⟩ := o.env.at h1
  rw [h2] at e1
  cases e1
  cases e2
  exact o.env.live.new hp m
/-- what a reading of a new list gives -/
def tDF' (K : PySem.W.Frag) (T : List Addr) (f : E) (t : TE) : Prop := ∀ σ H Q, tDF K T f σ H Q → t σ H Q
theorem own_of {K : PySem.W.Frag} {t : TE} {i : Nat} {Z : Ends} {σ : L2.St} {H : Hp} (ht : tDF' K T f t) (h : tDS K T (sOwn i f) Z σ H) : tAsg t (gName i) Z σ H := by
  obtain ⟨O, S, r, y, o, ef, q⟩ := h
  simp only [sOwn, Option.bind_eq_bind, Option.bind_eq_some_iff] at ef
  obtain ⟨d, e1, e2⟩ := ef
  cases e2
  refine ht _ _ _ ⟨S, r, d, o.env, e1, fun p H1 hp n1 ow => ?_⟩
  exact q (p :: S) (σ.set i (some (.ref p))) H1 (o.newOw i hp n1 ow) (n1.aftNew o.env.live hp)
theorem va_of {K : PySem.W.Frag} {t : TE} {i : Nat} {Z : Ends} {σ : L2.St} {H : Hp} (ht : tDF' K T f t) (h : tDS K T (sAsg (.nm i) f) Z σ H) : tAsg t (gName i) Z σ H := by
  obtain ⟨O, S, r, y, o, ef, q⟩ := h
  simp only [sAsg, asg, Option.bind_eq_bind, Option.bind_eq_some_iff] at ef
  obtain ⟨d, e1, r', e2, e3⟩ := ef
  cases e3
  cases e2
  refine ht _ _ _ ⟨S, r, d, o.env, e1, fun p H1 hp n1 ow => ?_⟩
  have rp := own_rp (T := T) o.env.live hp ow
  refine q S (σ.set i (some (.ref p))) H1 ?_ n1.aft
  exact (o.nxt n1).asg (t := .nm i) (d := d) rfl ((o.env.nxt n1).setVa rp) ⟨List.length_set, fun j hj => List.getElem?_set_ne fun z => hj (by simp [Tg.slots, z])⟩
/-- name = an own list from now on -/
theorem s_own (i : Nat) {x : Str} {p' : Pos} (ha : DF X T a f) (hN : X.N.Nodup) (hi : X.N[i]? = some x := by rfl) (hx : Loc X.env.scope x := by first | exact Or.inl rfl | exact Or.inr rfl) (hs : swapsWith a (some (.Name x p')) pos.line X.env = pure false := by rfl)
    (hf : X.fn x = true ∨ X.env.scope.names.lookup x = some .local := by first | exact .inl rfl | exact .inr rfl) : DS X T (.Assign [.Name x p'] a pos) (sOwn i f) := ⟨PS.imp (ps_set hN hi hx ha.pe hs hf) fun Z σ H h => own_of (fun _ _ _ z => z) h⟩
theorem s_set (i : Nat) {x : Str} {p' : Pos} (ha : DE X T a f) (hN : X.N.Nodup) (hi : X.N[i]? = some x := by rfl) (hx : Loc X.env.scope x := by first | exact Or.inl rfl | exact Or.inr rfl) (hs : swapsWith a (some (.Name x p')) pos.line X.env = pure false := by rfl)
    (hf : X.fn x = true ∨ X.env.scope.names.lookup x = some .local := by first | exact .inl rfl | exact .inr rfl) : DS X T (.Assign [.Name x p'] a pos) (sAsg (.nm i) f) := ⟨PS.imp (ps_set hN hi hx ha.pe hs hf) fun Z σ H ⟨O, S, r, y, o, ef, q⟩ => by
  simp only [sAsg, asg, Option.bind_eq_bind, Option.bind_eq_some_iff] at ef
  obtain ⟨d, e1, r', e2, e3⟩ := ef
  cases e3
  cases e2
  refine ⟨S, r, d, o.env, e1, fun v H1 n1 rp => ?_⟩
  refine q S (σ.set i (some v)) H1 ?_ n1.aft
  exact (o.nxt n1).asg (t := .nm i) (d := d) rfl ((o.env.nxt n1).setVa rp) ⟨List.length_set, fun j hj => List.getElem?_set_ne fun z => hj (by simp [Tg.slots, z])⟩⟩
section
variable {i : Nat} {y : Str} {py : Pos} {elt tg iter : Expr} {ifs : List Expr} {scope : Scope} {own : List (Str × Nat)} {q : Bool} {it : I} {t : Tg} {ts : Dm.T} {el : E} {spos : Pos}
theorem lc_df {K : PySem.W.Frag} {own : List Nat} (hw : ∀ j ∈ t.slots, j ∈ own) : tDF' K T (lstI (compI own it t ts el)) (tLc (tDI K T q it) (tDG K T t) (tDT K T ts) (tDE K T el) own) := fun σ H Q ⟨S, r, d, o, ef, k⟩ => lc_read hw o ef k
/-- name = [..] on one line -/
theorem s_ownLc (i : Nat) (hc : X.calm = true) (hN : X.N.Nodup) (hi : DI X T q tg iter it) (ok : BlkOk X.N X.env.scope scope own)
    (hg : ∀ (s : Shared) (H : Hp) (C : Addr) (cl : List (Str × Addr)) (fp : List Addr), DG (X.blk s H scope (compEnvC scope cl C X.env) fp) T tg t) (ht : ∀ (s : Shared) (H : Hp) (C : Addr) (cl : List (Str × Addr)) (fp : List Addr), DTs (X.blk s H scope (compEnvC scope cl C X.env) fp) T ifs ts)
    (he : ∀ (s : Shared) (H : Hp) (C : Addr) (cl : List (Str × Addr)) (fp : List Addr), DE (X.blk s H scope (compEnvC scope cl C X.env) fp) T elt el) (hw : ∀ j ∈ t.slots, j ∈ own.map (·.2) := by decide)
    (hy : X.N[i]? = some y := by rfl) (hyl : X.env.scope.names.lookup y = some .local := by rfl) (hsw : swapsWith (.ListComp elt [⟨tg, iter, ifs, 0⟩] scope pos) (some (.Name y py)) spos.line X.env = pure true := by exact sw_true rfl rfl rfl (by decide +kernel))
    (hs : ∀ x, foldedSetIterable iter X.env x = pure x := by intro _; rfl) :
    DS X T (.Assign [.Name y py] (.ListComp elt [⟨tg, iter, ifs, 0⟩] scope pos) spos) (sOwn i (lstI (compI (own.map (·.2)) it t ts el))) :=
  ⟨PS.imp (ps_setLc hc hN hy hyl hsw hi.pi ok (fun s H C cl fp => (hg s H C cl fp).pg) (fun s H C cl fp => (ht s H C cl fp).pt) (fun s H C cl fp => (he s H C cl fp).pe) hs) fun Z σ H h => own_of (lc_df hw) h⟩
theorem s_setLc (i : Nat) (hc : X.calm = true) (hN : X.N.Nodup) (hi : DI X T q tg iter it) (ok : BlkOk X.N X.env.scope scope own)
    (hg : ∀ (s : Shared) (H : Hp) (C : Addr) (cl : List (Str × Addr)) (fp : List Addr), DG (X.blk s H scope (compEnvC scope cl C X.env) fp) T tg t) (ht : ∀ (s : Shared) (H : Hp) (C : Addr) (cl : List (Str × Addr)) (fp : List Addr), DTs (X.blk s H scope (compEnvC scope cl C X.env) fp) T ifs ts)
    (he : ∀ (s : Shared) (H : Hp) (C : Addr) (cl : List (Str × Addr)) (fp : List Addr), DE (X.blk s H scope (compEnvC scope cl C X.env) fp) T elt el) (hw : ∀ j ∈ t.slots, j ∈ own.map (·.2) := by decide)
    (hy : X.N[i]? = some y := by rfl) (hyl : X.env.scope.names.lookup y = some .local := by rfl) (hsw : swapsWith (.ListComp elt [⟨tg, iter, ifs, 0⟩] scope pos) (some (.Name y py)) spos.line X.env = pure true := by exact sw_true rfl rfl rfl (by decide +kernel))
    (hs : ∀ x, foldedSetIterable iter X.env x = pure x := by intro _; rfl) :
    DS X T (.Assign [.Name y py] (.ListComp elt [⟨tg, iter, ifs, 0⟩] scope pos) spos) (sAsg (.nm i) (lstI (compI (own.map (·.2)) it t ts el))) :=
  ⟨PS.imp (ps_setLc hc hN hy hyl hsw hi.pi ok (fun s H C cl fp => (hg s H C cl fp).pg) (fun s H C cl fp => (ht s H C cl fp).pt) (fun s H C cl fp => (he s H C cl fp).pe) hs) fun Z σ H h => va_of (lc_df hw) h⟩
end
end
end Dm
end

section
set_option Elab.async false
set_option linter.all false
set_option autoImplicit true
set_option maxRecDepth 100000
set_option maxHeartbeats 1000000
/-! DStmt2: loops; own lists and dicts that are written; defs. -/
namespace Dm
open PySem PySem.Spec PyProof.Rows L2
section
variable {X : Cx} {T : List Addr} {e a b c : Expr} {es rest : List Expr} {f g h : E} {fs : List E} {pos p : Pos} {st : Stmt} {sts : List Stmt} {F G : Dm.S} {Fs : List Dm.S}

/-! ### for, while -/
theorem forL_cons {t : Tg} {x : D} {xs : List D} {r : Env} {y : Res} (h : forL t F (x :: xs) r = some y) : ∃ r1 z, asg t x r = some r1 ∧ F r1 = some z ∧ (match z with
    | .nx r2 => forL t F xs r2 = some y
    | .ct r2 => forL t F xs r2 = some y
    | .bk r2 => y = .nx r2
    | .rt d => y = .rt d) := by
  simp only [forL, Option.bind_eq_bind, Option.bind_eq_some_iff] at h
  obtain ⟨r1, h1, z, h2, h3⟩ := h
  refine ⟨r1, z, h1, h2, ?_⟩
  cases z with
  | nx r2 => exact h3
  | ct r2 => exact h3
  | bk r2 => exact (Option.some.inj h3).symm
  | rt d => exact (Option.some.inj h3).symm
theorem s_for {tg iter : Expr} {body : List Stmt} {it : I} {t : Tg} (hp : PassesOwn (model X.prog X.w) X.A X.env X.xe) (hc : X.calm = true) (hi : DI X T false tg iter it) (hg : DG X T tg t) (hb : DSs X T body F)
    (hs : ∀ x, foldedSetIterable iter X.env x = pure x := by intro _; rfl) : DS X T (.For tg iter body [] pos) (sFor it t F) := ⟨PS.imp (ps_for hp hc hi.pi hg.pg hb.ps hs) fun Z σ H ⟨O, S, r, x, o, ef, q⟩ => by
  simp only [sFor, Option.bind_eq_bind, Option.bind_eq_some_iff] at ef
  obtain ⟨ds, e1, e2⟩ := ef
  refine ⟨S, r, ds, o.env, e1, fun J H1 kp fx n1 hk hfx hit => ?_⟩
  let W : Nat → Nat → L2.St → Hp → Prop := fun i m σ' H' => ∃ S' r', i + m = ds.length ∧ SOk X.K T O S' H' σ' r' ∧ Aft T O S H1 S' H' ∧ forL t F (ds.drop i) r' = some x
  refine ⟨W, ⟨ds.length, S, r, by omega, o.nxt n1, Aft.refl n1.tabs, by simpa using e2⟩, ?_⟩
  rintro i m σ' H' ⟨S', r', him, o', a', ec⟩
  have q' := (q.after n1.aft).after a'
  have kc : ∀ y ∈ kp, RpB X.K S' H' y.1 y.2 := fun y hy => .inl (Rp.le a'.le (hk y hy))
  obtain ⟨stp, go⟩ := hit S' H' o'.env.tabs o'.env.live kc (hfx.aft a')
  by_cases hi : ds.length ≤ i
  · refine .inl ⟨stp i hi, ?_⟩
    rw [List.drop_eq_nil_of_le hi] at ec
    simp only [forL, Option.some.injEq] at ec
    subst ec
    exact q' S' σ' H' o' (Aft.refl o'.env.tabs)
  · have hi' : i < ds.length := Nat.lt_of_not_le hi
    obtain ⟨g1, g2⟩ := go i _ (List.getElem?_eq_getElem hi')
    rw [List.drop_eq_getElem_cons hi'] at ec
    obtain ⟨r1, z, f1, f2, f3⟩ := forL_cons ec
    refine .inr ⟨g1, W (i + 1) (m - 1), fun σ2 H2 w => ⟨m - 1, by omega, w⟩, fun v H2 y => ?_⟩
    obtain ⟨n2, rv⟩ := g2 v H2 y
    refine ⟨S', r', _, r1, o'.env.nxt n2, rv, f1, fun σ3 o3 u3 => ?_⟩
    have so3 : SOk X.K T O S' H2 σ3 r1 := o'.asg f1 o3 u3
    have a3 : Aft T O S H1 S' H2 := a'.trans n2.aft
    have q3 := q'.after (n2.aft (O := O))
    refine ⟨O, S', r1, z, so3, f2, ?_⟩
    cases z with
    | nx r2 => exact fun S4 σ4 H4 o4 a4 => ⟨S4, r2, by omega, o4, a3.trans a4, f3⟩
    | ct r2 => exact fun S4 σ4 H4 o4 a4 => ⟨S4, r2, by omega, o4, a3.trans a4, f3⟩
    | bk r2 =>
      simp only at f3
      subst f3
      exact fun S4 σ4 H4 o4 a4 => q3 S4 σ4 H4 o4 a4
    | rt d =>
      simp only at f3
      subst f3
      exact fun v S4 H4 a4 rp => q3 v S4 H4 a4 rp⟩
theorem whL_succ {t : Dm.T} {n : Nat} {r : Env} {y : Res} (h : whL t F n r = some y) : ∃ m k, n = m + 1 ∧ t r = some k ∧ if k = true then ∃ z, F r = some z ∧ (match z with
    | .nx r2 => whL t F m r2 = some y
    | .ct r2 => whL t F m r2 = some y
    | .bk r2 => y = .nx r2
    | .rt d => y = .rt d) else y = .nx r := by
  cases n with
  | zero => cases h
  | succ m =>
    simp only [whL, Option.bind_eq_bind, Option.bind_eq_some_iff] at h
    obtain ⟨k, h1, h2⟩ := h
    refine ⟨m, k, rfl, h1, ?_⟩
    cases k with
    | false => simp at h2 ⊢; exact h2.symm
    | true =>
      simp only [if_true, Option.bind_eq_some_iff] at h2 ⊢
      obtain ⟨z, h3, h4⟩ := h2
      refine ⟨z, h3, ?_⟩
      cases z with
      | nx r2 => exact h4
      | ct r2 => exact h4
      | bk r2 => exact (Option.some.inj h4).symm
      | rt d => exact (Option.some.inj h4).symm
theorem s_wh {body : List Stmt} {t : Dm.T} (hp : PassesOwn (model X.prog X.w) X.A X.env X.xe) (hc : DT X T c t) (hb : DSs X T body F) : DS X T (.While c body [] pos) (sWh t F) := ⟨PS.imp (ps_while hp hc.pt hb.ps) fun Z σ H ⟨O, S, r, x, o, ef, q⟩ => by
  let W : Nat → L2.St → Hp → Prop := fun m σ' H' => ∃ S' r', SOk X.K T O S' H' σ' r' ∧ Aft T O S H S' H' ∧ whL t F m r' = some x
  refine ⟨W, ⟨100000, S, r, o, Aft.refl o.env.tabs, ef⟩, ?_⟩
  rintro m σ' H' ⟨S', r', o', a', ec⟩
  obtain ⟨m', k, rfl, e1, e2⟩ := whL_succ ec
  refine ⟨S', r', k, o'.env, e1, fun H2 n2 => ?_⟩
  have a3 : Aft T O S H S' H2 := a'.trans n2.aft
  have q3 := q.after a3
  cases k with
  | false =>
    rw [if_neg Bool.false_ne_true] at e2
    subst e2
    exact q3 S' σ' H2 (o'.nxt n2) (Aft.refl n2.tabs)
  | true =>
    rw [if_pos rfl] at e2
    obtain ⟨z, e3, e4⟩ := e2
    refine ⟨W m', fun σ3 H3 w => ⟨m', Nat.lt_succ_self _, w⟩, O, S', r', z, o'.nxt n2, e3, ?_⟩
    cases z with
    | nx r2 => exact fun S4 σ4 H4 o4 a4 => ⟨S4, r2, o4, a3.trans a4, e4⟩
    | ct r2 => exact fun S4 σ4 H4 o4 a4 => ⟨S4, r2, o4, a3.trans a4, e4⟩
    | bk r2 =>
      simp only at e4
      subst e4
      exact fun S4 σ4 H4 o4 a4 => q3 S4 σ4 H4 o4 a4
    | rt d =>
      simp only at e4
      subst e4
      exact fun v S4 H4 a4 rp => q3 v S4 H4 a4 rp⟩

/-! ### own lists and dicts -/
theorem own_some {r : Env} {i : Nat} {d : D} (h : Dm.own r i = some d) : r[i]? = some (.ow d) := by
  unfold Dm.own at h
  split at h
  · rename_i d' hd'; cases h; exact hd'
  · cases h
theorem SOk.at {K : PySem.W.Frag} {O S : List Addr} {H : Hp} {σ : L2.St} {r : Env} (o : SOk K T O S H σ r) {i : Nat} {d : D} (h : r[i]? = some (.ow d)) : ∃ q, σ[i]? = some (some (.ref q)) ∧ q ∈ S ∧ q ∉ O ∧ Own K S H q d := by
  obtain ⟨v, e1, q, e2, m, ow⟩ := o.env.at h
  subst e2
  exact ⟨q, e1, m, o.own i _ _ h e1, ow⟩
theorem mns_upd' {S : List Addr} {H : Hp} {p : Addr} {o : HO} (hp : p ∈ S) : mns S (upd H p o) = mns S H := by
  funext a
  by_cases h : a ∈ S
  · rw [mns_none h, mns_none h]
  · rw [mns_of h, mns_of h]
    exact upd_ne fun z => h (by rw [z]; exact hp)
theorem Own.other' {K : PySem.W.Frag} {S : List Addr} {H : Hp} {p q : Addr} {o : HO} {d : D} (hp : p ∈ S) (h : Own K S H q d) (hne : q ≠ p) : Own K S (upd H p o) q d := by
  cases h with
  | lst e r => exact .lst ((upd_ne hne).trans e) (by rw [mns_upd' hp]; exact r)
  | dk e r => exact .dk ((upd_ne hne).trans e) (by rw [mns_upd' hp]; exact r)
  | dt e r => exact .dt ((upd_ne hne).trans e) (by rw [mns_upd' hp]; exact r)
/-- the own list or dict of i is written -/
theorem SOk.write {K : PySem.W.Frag} {O S : List Addr} {H : Hp} {σ : L2.St} {r : Env} {i : Nat} {q : Addr} {d d' : D} {u v : HO} (o : SOk K T O S H σ r) (hi : r[i]? = some (.ow d)) (hs : σ[i]? = some (some (.ref q))) (hq : q ∈ S) (hO : q ∉ O) (hu : H q = some u) (nu : NT u) (nv : NT v)
    (ow : Own K S (upd H q v) q d') : SOk K T O S (upd H q v) σ (r.set i (.ow d')) ∧ Aft T O S H S (upd H q v) := by
  have a := aft_upd (o := v) o.env.tabs hq hO hu nu
  have keep : ∀ b, b ≠ q → upd H q v b = H b := fun b hb => upd_ne hb
  have e1 : EnvOk K T S (upd H q v) σ (r.set i (.no)) := by
    refine ⟨a.tabs, fun a ha => ?_, by rw [List.length_set]; exact o.env.len, fun j w sl h1 h2 => ?_, fun j k p' x y h1 h2 h3 h4 => ?_⟩
    · by_cases hb : a = q
      · subst hb; exact ⟨v, upd_same, nv⟩
      · obtain ⟨o', h1, h2⟩ := o.env.live a ha
        exact ⟨o', (keep a hb).trans h1, h2⟩
    · by_cases hj : i = j
      · subst hj
        obtain ⟨h3, h4⟩ := List.getElem?_eq_some_iff.mp h2
        rw [List.getElem_set_self] at h4
        subst h4; exact True.intro
      · rw [List.getElem?_set_ne hj] at h2
        have z := o.env.slot j w sl h1 h2
        cases sl with
        | no => exact z
        | va d => obtain ⟨x, z1, z2⟩ := z; exact ⟨x, z1, by rw [mns_upd' hq]; exact z2⟩
        | ow d =>
          obtain ⟨p', z1, z2, z3⟩ := z
          refine ⟨p', z1, z2, z3.other' hq fun z => hj ?_⟩
          subst z z1
          exact o.env.inj i j _ _ _ hi h2 hs h1
    · by_cases hj : i = j
      · subst hj
        obtain ⟨_, z⟩ := List.getElem?_eq_some_iff.mp h1
        rw [List.getElem_set_self] at z; cases z
      · by_cases hk : i = k
        · subst hk
          obtain ⟨_, z⟩ := List.getElem?_eq_some_iff.mp h2
          rw [List.getElem_set_self] at z; cases z
        · rw [List.getElem?_set_ne hj] at h1
          rw [List.getElem?_set_ne hk] at h2
          exact o.env.inj j k p' x y h1 h2 h3 h4
  have s1 : SOk K T O S (upd H q v) σ (r.set i .no) := ⟨e1, o.sub, fun j x p' h1 h2 => by
    by_cases hj : i = j
    · subst hj
      obtain ⟨_, z⟩ := List.getElem?_eq_some_iff.mp h1
      rw [List.getElem_set_self] at z; cases z
    · rw [List.getElem?_set_ne hj] at h1
      exact o.own j x p' h1 h2⟩
  have s2 := s1.setOw i hq hO ow fun j x hj h1 h2 => by
    rw [List.getElem?_set_ne (Ne.symm hj)] at h1
    exact hj (o.env.inj j i _ _ _ h1 hi h2 hs)
  have e2 : σ.set i (some (.ref q)) = σ := by
    apply List.ext_getElem?
    intro j
    by_cases hj : i = j
    · subst hj
      rw [List.getElem?_set_self' , hs]; rfl
    · rw [List.getElem?_set_ne hj]
  rw [e2, List.set_set] at s2
  exact ⟨s2, a⟩
theorem lenOk_lt {n : Nat} (h : lenOk (n + 1) = true) : n < sizeLine := lenOk_le h
theorem Own.list {K : PySem.W.Frag} {S : List Addr} {H : Hp} {q : Addr} {ds : List D} (o : Own K S H q (.list ds)) : ∃ xs, H q = some (.lst xs) ∧ RpAll K (mns S H) xs ds := by
  cases o with
  | lst e r => exact ⟨_, e, r⟩
theorem s_app (i : Nat) {x : Str} {p1 p2 p3 : Pos} (ha : DE X T a f) (hN : X.N[i]? = some x := by rfl) (hv : Vis X.env.scope x := by first | exact Or.inl rfl | exact Or.inr (Or.inl rfl) | exact Or.inr (Or.inr rfl)) (hd : (x == ("__debug__" : Str)) = false := by decide)
    (hcd : (x == ("__classdict__" : Str)) = false := by decide) (hs1 : starEach [a] X.env = (false, eval a X.env) :: starEach [] X.env := by rfl)
    (hbase : attributeBase (.Name x p1) "append" X.env (eval (.Name x p1) X.env) = eval (.Name x p1) X.env := by rfl)
    (hfew : ((backTo p3 (starEach [a] X.env)).all (fun x => !x.1) && (backToKw p3 (keywordEach [] X.env)).all (fun x => x.1.isSome) && decide ([a].length + ([] : List Keyword).length + (if ([] : List Keyword).isEmpty then 0 else 1) < 30)) = true := by rfl)
    (hline : (p2.endLine == p3.line) = true := by rfl) (hsw : swapsWith (.Call (.Attribute (.Name x p1) "append" p2) [a] [] p3) none pos.line X.env = pure false := by rfl) :
    DS X T (.Expr (.Call (.Attribute (.Name x p1) "append" p2) [a] [] p3) pos) (sApp i f) :=
  ⟨PS.imp (ps_expr (pe_bm PySem.F.plainAttrs_list PySem.F.slot_list_append PySem.F.type_list_append mt_append (pe_var hN hv hd hcd) (a_cons ha a_nil hs1).pa hbase hfew hline hs1 (by rfl)) hsw) fun Z σ H ⟨O, S, r, y, o, ef, q⟩ => by
    simp only [sApp, Option.bind_eq_bind, Option.bind_eq_some_iff] at ef
    obtain ⟨d, e1, d2, e2, e3⟩ := ef
    have e2 := own_some e2
    split at e3
    · rename_i ds
      split at e3
      · rename_i hz
        cases e3
        obtain ⟨l, hl, hm, hO, ow⟩ := o.at e2
        obtain ⟨xs, hx, rr⟩ := ow.list
        refine ⟨_, hl, .inl ⟨rfl, xs, .inl (.inl hx)⟩, S, r, [d], o.env, by simp [argsE, e1], fun vs H1 n1 rp => ?_⟩
        cases rp with
        | cons ra rb =>
          cases rb
          have hx1 : H1 l = some (.lst xs) := n1.ext _ _ hx fun _ z => by cases z
          have rr1 := rr.le (le_mns (S := S) n1.le)
          refine ⟨l, xs, _, rfl, rfl, hx1, by rw [rr.length]; exact lenOk_lt hz, ?_⟩
          obtain ⟨s2, a2⟩ := (o.nxt n1).write (v := .lst (xs ++ [_])) e2 hl hm hO hx1 (NT.lst _) (NT.lst _) (.lst upd_same (by rw [mns_upd' hm]; exact rr1.append (.cons ra .nil)))
          exact q S σ _ s2 (n1.aft.trans a2)
      · cases e3
    · cases e3⟩
end
end Dm
end

section
set_option Elab.async false
set_option linter.all false
set_option autoImplicit true
set_option maxRecDepth 100000
set_option maxHeartbeats 1000000
/-! DStmt3: places of own lists and dicts written; what is popped; names moved; defs. -/
namespace Dm
open PySem PySem.Spec PyProof.Rows L2

/-! ### putting into a dict -/
theorem any_kD {K : PySem.W.Frag} {H : Hp} (k : Key) : ∀ {ks : List (Key × V)} {kvs : List (D × D)}, RpK K H ks kvs → (kvs.any fun q => PyData.eqv q.1 (kD k)) = ks.any fun q => decide (q.1 = k)
  | _, _, .nil => rfl
  | (k', v) :: ks, (_, d) :: kvs, .cons hp r => by
    rw [List.any_cons, List.any_cons, any_kD k r]
    show (PyData.eqv (kD k') (kD k) || _) = _
    rw [eqv_kD]
theorem any_tD {K : PySem.W.Frag} {H : Hp} (k : List Key) : ∀ {ks : List (List Key × V)} {kvs : List (D × D)}, RpT K H ks kvs → (kvs.any fun q => PyData.eqv q.1 (.tuple (k.map kD))) = ks.any fun q => decide (q.1 = k)
  | _, _, .nil => rfl
  | (k', v) :: ks, (_, d) :: kvs, .cons hp r => by
    rw [List.any_cons, List.any_cons, any_tD k r]
    show (PyData.eqv (.tuple (k'.map kD)) (.tuple (k.map kD)) || _) = _
    rw [eqv_tD]
theorem RpK.append {K : PySem.W.Frag} {H : Hp} : ∀ {ks ls : List (Key × V)} {kvs lvs : List (D × D)}, RpK K H ks kvs → RpK K H ls lvs → RpK K H (ks ++ ls) (kvs ++ lvs)
  | _, _, _, _, .nil, s => s
  | _, _, _, _, .cons r t, s => .cons r (RpK.append t s)
theorem RpT.append {K : PySem.W.Frag} {H : Hp} : ∀ {ks ls : List (List Key × V)} {kvs lvs : List (D × D)}, RpT K H ks kvs → RpT K H ls lvs → RpT K H (ks ++ ls) (kvs ++ lvs)
  | _, _, _, _, .nil, s => s
  | _, _, _, _, .cons r t, s => .cons r (RpT.append t s)
theorem RpK.over {K : PySem.W.Frag} {H : Hp} {k : Key} {v : V} {d : D} (q : Rp K H v d) : ∀ {ks : List (Key × V)} {kvs : List (D × D)}, RpK K H ks kvs →
    RpK K H (ks.map (fun kv => if kv.1 = k then (kv.1, v) else kv)) (kvs.map (fun p => if PyData.eqv p.1 (kD k) = true then (p.1, d) else p))
  | _, _, .nil => .nil
  | (k', v') :: ks, (_, d') :: kvs, .cons hp r => by
    rw [List.map_cons, List.map_cons]
    by_cases h : k' = k
    · rw [if_pos h, if_pos (by show PyData.eqv (kD k') (kD k) = true; rw [eqv_kD]; simp [h])]
      exact .cons q (RpK.over q r)
    · rw [if_neg h, if_neg (by show ¬ PyData.eqv (kD k') (kD k) = true; rw [eqv_kD]; simp [h])]
      exact .cons hp (RpK.over q r)
theorem RpT.over {K : PySem.W.Frag} {H : Hp} {k : List Key} {v : V} {d : D} (q : Rp K H v d) : ∀ {ks : List (List Key × V)} {kvs : List (D × D)}, RpT K H ks kvs →
    RpT K H (ks.map (fun kv => if kv.1 = k then (kv.1, v) else kv)) (kvs.map (fun p => if PyData.eqv p.1 (.tuple (k.map kD)) = true then (p.1, d) else p))
  | _, _, .nil => .nil
  | (k', v') :: ks, (_, d') :: kvs, .cons hp r => by
    rw [List.map_cons, List.map_cons]
    by_cases h : k' = k
    · rw [if_pos h, if_pos (by show PyData.eqv (.tuple (k'.map kD)) (.tuple (k.map kD)) = true; rw [eqv_tD]; simp [h])]
      exact .cons q (RpT.over q r)
    · rw [if_neg h, if_neg (by show ¬ PyData.eqv (.tuple (k'.map kD)) (.tuple (k.map kD)) = true; rw [eqv_tD]; simp [h])]
      exact .cons hp (RpT.over q r)
theorem RpK.put {K : PySem.W.Frag} {H : Hp} {k : Key} {v : V} {d : D} {ks : List (Key × V)} {kvs : List (D × D)} (q : Rp K H v d) (r : RpK K H ks kvs) : RpK K H (putK ks k v) (putD kvs (kD k) d) := by
  unfold putK putD
  rw [any_kD k r]
  split
  · exact r.over q
  · exact r.append (.cons q .nil)
theorem RpT.put {K : PySem.W.Frag} {H : Hp} {k : List Key} {v : V} {d : D} {ks : List (List Key × V)} {kvs : List (D × D)} (q : Rp K H v d) (r : RpT K H ks kvs) : RpT K H (putK ks k v) (putD kvs (.tuple (k.map kD)) d) := by
  unfold putK putD
  rw [any_tD k r]
  split
  · exact r.over q
  · exact r.append (.cons q .nil)
/-- an own dict takes a key -/
def rPutD (K : PySem.W.Frag) : TSet := fun o i v H Q => ∃ S q kvs k d, o = .ref q ∧ q ∈ S ∧ Own K S H q (.dict kvs) ∧ Rp K (mns S H) i k ∧ Rp K (mns S H) v d ∧ fitsK kvs k = true ∧ lenOk (kvs.length + 1) = true ∧
  ∀ u nv, H q = some u → NT u → NT nv → Own K S (upd H q nv) q (.dict (putD kvs k d)) → Q (upd H q nv)
theorem set_dictD {X : Cx} (hu : X.A.units + 1 < cLine) : PSet X (rPutD X.K) := by
  intro pins s σ H o i v ov iv uu Q I ro ri rv ⟨S, q, kvs, k, d, eo, hq, ow, rk, rd, hf, hz, h⟩
  subst eo
  cases (show ov = Value.ref q from ro)
  have hz := lenOk_lt hz
  have key : ∀ {k : List Key} {x : V}, Rp X.K (mns S H) x (.tuple (k.map kD)) → ∃ b, x = .ref b ∧ b ≠ q ∧ H b = some (.tup (k.map kV)) := fun {k x} r => by
    generalize hd : PyData.tuple (k.map kD) = d0 at r
    cases r with
    | tup hH rr =>
      cases hd
      obtain ⟨h1, h2⟩ := mns_some hH
      exact ⟨_, rfl, fun z => h2 (z ▸ hq), by rw [h1, kDs_kV rr]⟩
    | _ => cases hd
  by_cases hne : kvs = []
  · subst hne
    have emp : ∃ u, (u = .dK [] ∨ u = .dT []) ∧ H q = some u := by
      cases ow with
      | dk e r => cases r; exact ⟨_, .inl rfl, e⟩
      | dt e r => cases r; exact ⟨_, .inr rfl, e⟩
    obtain ⟨u, hu', e⟩ := emp
    have nu : NT u := by rcases hu' with rfl | rfl; exact NT.dK _; exact NT.dT _
    rcases Bool.or_eq_true_iff.mp (fits_key hf) with hk | hk
    · obtain ⟨k, rfl⟩ := flatK_key hk
      have ei := kD_kV rk
      subst ei
      have I1 := inv_emp I hu' (.inl rfl) e
      refine d_setItem hu I1 (DPut.k upd_same hz) ri rv fun s' I' => ⟨_, I', ?_⟩
      rw [upd_upd]
      exact h u _ e nu (NT.dK _) (.dk upd_same (by rw [mns_upd' hq]; exact RpK.put (ks := []) rd .nil))
    · obtain ⟨k, rfl⟩ := tupK_key hk
      obtain ⟨b, rfl, hb, eb⟩ := key rk
      have I1 := inv_emp I hu' (.inr rfl) e
      refine d_setItem hu I1 (DPut.t upd_same ((upd_ne hb).trans eb) hz) ri rv fun s' I' => ⟨_, I', ?_⟩
      rw [upd_upd]
      exact h u _ e nu (NT.dT _) (.dt upd_same (by rw [mns_upd' hq]; exact RpT.put (ks := []) rd .nil))
  · cases ow with
    | dk e r =>
      obtain ⟨k, rfl⟩ := fitK r hne hf
      have ei := kD_kV rk
      subst ei
      exact d_setItem hu I (DPut.k e (by rw [r.length]; exact hz)) ri rv fun s' I' => ⟨_, I', h _ _ e (NT.dK _) (NT.dK _) (.dk upd_same (by rw [mns_upd' hq]; exact r.put rd))⟩
    | dt e r =>
      obtain ⟨k, rfl⟩ := fitT r hne hf
      obtain ⟨b, rfl, hb, eb⟩ := key rk
      exact d_setItem hu I (DPut.t e eb (by rw [r.length]; exact hz)) ri rv fun s' I' => ⟨_, I', h _ _ e (NT.dT _) (NT.dT _) (.dt upd_same (by rw [mns_upd' hq]; exact r.put rd))⟩
theorem PSet.or {X : Cx} {t u : TSet} (h : PSet X t) (h' : PSet X u) : PSet X (fun o i v H Q => t o i v H Q ∨ u o i v H Q) := fun pins s σ H o i v ov iv uu Q I ro ri rv q => q.elim (h pins s σ H o i v ov iv uu Q I ro ri rv) (h' pins s σ H o i v ov iv uu Q I ro ri rv)
theorem setAt_ixN {xs ys : List D} {i : Int} {d : D} (h : setAt xs i d = some ys) : ∃ j, ixN xs.length i = some j ∧ ys = xs.set j d := by
  unfold setAt at h
  unfold ixN
  by_cases h0 : 0 ≤ i
  · rw [if_pos h0] at h ⊢
    split at h
    · rename_i hl
      cases h
      exact ⟨i.toNat, by rw [if_pos (by omega)], rfl⟩
    · cases h
  · rw [if_neg h0] at h ⊢
    split at h
    · rename_i hl
      cases h
      exact ⟨_, by rw [if_pos (by omega)], by congr 1; omega⟩
    · cases h
section
variable {X : Cx} {T : List Addr} {e a b c : Expr} {es rest : List Expr} {f g h : E} {fs : List E} {pos p : Pos} {st : Stmt} {sts : List Stmt} {F G : Dm.S} {Fs : List Dm.S}
/-- x[k] = e -/
theorem s_put (i : Nat) {x : Str} {p1 p2 : Pos} (hu : X.A.units + 1 < cLine) (hk : DE X T b g) (ha : DE X T a f) (hN : X.N[i]? = some x := by rfl) (hv : Vis X.env.scope x := by first | exact Or.inl rfl | exact Or.inr (Or.inl rfl) | exact Or.inr (Or.inr rfl)) (hd : (x == ("__debug__" : Str)) = false := by decide)
    (hcd : (x == ("__classdict__" : Str)) = false := by decide) (has : ∀ v, assign (.Subscript (.Name x p1) b p2) X.env v = (do
      let ov ← holding [v] (eval (.Name x p1) X.env)
      let iv ← holding [v, ov] (eval b X.env)
      standAt p2
      holding [v, ov, iv] (setItem ov iv v)
      release [v, ov, iv] []) := by intro _; rfl) (hs : swapsWithSole [.Subscript (.Name x p1) b p2] a pos.line X.env = pure false := by rfl) (hw : swappedStores [.Subscript (.Name x p1) b p2] a X.env = pure none := by rfl)
    (h1 : (assignEach [.Subscript (.Name x p1) b p2] X.env).map (·.2) = [assign (.Subscript (.Name x p1) b p2) X.env] := by rfl) : DS X T (.Assign [.Subscript (.Name x p1) b p2] a pos) (sPut i g f) :=
  ⟨PS.imp (ps_asg ha.pe (pg_sub (pe_var hN hv hd hcd) hk.pe (PSet.or set_list (set_dictD hu)) has) hs hw h1) fun Z σ H ⟨O, S, r, y, o, ef, q⟩ => by
    simp only [sPut, Option.bind_eq_bind, Option.bind_eq_some_iff] at ef
    obtain ⟨d, e1, k, e2, c, e3, e4⟩ := ef
    replace e3 := own_some e3
    obtain ⟨l, hl, hm, hO, ow⟩ := o.at e3
    refine ⟨S, r, d, o.env, e1, fun v H1 n1 rv => ⟨_, hl, S, r, k, o.env.nxt n1, e2, fun kv H2 n2 rk => ?_⟩⟩
    have n := n1.trans n2
    have ow2 := ow.nxt n.ext
    have rv2 := rv.le (le_mns (S := S) n2.le)
    split at e4
    · rename_i ds
      split at e4
      · rename_i j
        simp only [Option.bind_eq_bind, Option.bind_eq_some_iff] at e4
        obtain ⟨ys, e5, e6⟩ := e4
        cases e6
        cases rk
        obtain ⟨m, h3, rfl⟩ := setAt_ixN e5
        obtain ⟨xs, hx, rr⟩ := ow2.list
        refine .inl ⟨l, xs, j, m, rfl, rfl, hx, by rw [rr.length]; exact h3, ?_⟩
        obtain ⟨s2, a2⟩ := (o.nxt n).write (v := .lst (xs.set m v)) e3 hl hm hO hx (NT.lst _) (NT.lst _) (.lst upd_same (by rw [mns_upd' hm]; exact RpAll.set rv2 m rr))
        exact q S σ _ s2 (n.aft.trans a2)
      · cases e4
    · rename_i kvs
      split at e4
      · rename_i hb
        cases e4
        obtain ⟨h3, h4⟩ := Bool.and_eq_true_iff.mp hb
        refine .inr ⟨S, l, kvs, k, d, rfl, hm, ow2, rk, rv2, h3, h4, fun u nv hu nu nn o3 => ?_⟩
        obtain ⟨s2, a2⟩ := (o.nxt n).write e3 hl hm hO hu nu nn o3
        exact q S σ _ s2 (n.aft.trans a2)
      · cases e4
    · cases e4⟩
end
end Dm
end

section
set_option Elab.async false
set_option linter.all false
set_option autoImplicit true
set_option maxRecDepth 100000
set_option maxHeartbeats 1000000
/-! DStmt4: extend, pop, names moved; defs. -/
namespace Dm
open PySem PySem.Spec PyProof.Rows L2
/-- xs.extend(zs), zs a list that stands anywhere -/
theorem extend_at (l : Addr) (items : Array Value) (n : Nat) (b : Addr) (items2 : Array Value) (n2 : Nat) (sl : Array (Option Value)) (hc0 : ¬(!items.isEmpty && Builtin.List.listTooLong (items.size + items2.size)) = true) (hc1 : items.size ≤ sizeLine) (hs2 : items.size + items2.size ≤ sizeLine + 1) :
    Meets (Builtin.«list.extend» ⟨[.ref l, .ref b], []⟩) (fun _ R s => s.heap.get? l = some { cls := .type "list", dict := none, data := .seq items n, slots := #[] } ∧ s.heap.get? b = some { cls := .type "list", dict := none, data := .seq items2 n2, slots := sl } ∧ R (.ok (.ret Value.none)) { s with heap := s.heap.update l (Obj.mapSeq fun x => x ++ items2), toks := s.toks }) :=
  .of_wp fun prog w A R s h => by
    obtain ⟨hp, g, d, tk, os⟩ := s; obtain ⟨hl, hb, h⟩ := h; have f1 := AutoSeq1.idx_int; have f2 := AutoSeq1.sub_tuple_tuple; have f3 := AutoSeq1.sub_list_list; have f4 := AutoSeq1.sub_tuple_list; have f5 := AutoSeq1.sub_list_tuple;
    have hz' : (items ++ items2).size ≤ sizeLine + 1 := by rw [Array.size_append]; exact hs2
    wp_walk using (wpAny_updateSeq hl rfl (hz := hc1) (_hz' := hz')), AutoSeq1.wpAny_loadPart' hl, AutoSeq1.wpAny_loadPart' hb; exact ⟨_, rfl, h⟩
/-- xs.extend(zs), zs a tuple that stands anywhere -/
theorem extend_tup_at (l : Addr) (items : Array Value) (n : Nat) (b : Addr) (items2 : Array Value) (n2 : Nat) (sl : Array (Option Value)) (dc : Option Addr) (hc0 : ¬(!items.isEmpty && Builtin.List.listTooLong (items.size + items2.size)) = true) (hc1 : items.size ≤ sizeLine) (hs2 : items.size + items2.size ≤ sizeLine + 1) :
    Meets (Builtin.«list.extend» ⟨[.ref l, .ref b], []⟩) (fun _ R s => s.heap.get? l = some { cls := .type "list", dict := none, data := .seq items n, slots := #[] } ∧ s.heap.get? b = some { cls := .type "tuple", dict := dc, data := .seq items2 n2, slots := sl } ∧ R (.ok (.ret Value.none)) { s with heap := s.heap.update l (Obj.mapSeq fun x => x ++ items2), toks := s.toks }) :=
  .of_wp fun prog w A R s h => by
    obtain ⟨hp, g, d, tk, os⟩ := s; obtain ⟨hl, hb, h⟩ := h; have f1 := AutoSeq1.idx_int; have f2 := AutoSeq1.sub_tuple_tuple; have f3 := AutoSeq1.sub_list_list; have f4 := AutoSeq1.sub_tuple_list; have f5 := AutoSeq1.sub_list_tuple;
    have hz' : (items ++ items2).size ≤ sizeLine + 1 := by rw [Array.size_append]; exact hs2
    wp_walk using (wpAny_updateSeq hl rfl (hz := hc1) (_hz' := hz')), AutoSeq1.wpAny_loadPart' hl, AutoSeq1.wpAny_loadPart' hb; exact ⟨_, rfl, h⟩
def rExtL (K : PySem.W.Frag) : V → List V → Hp → VK → Prop := fun x vs H Q => ∃ l b xs zs, x = .ref l ∧ vs = [.ref b] ∧ H l = some (.lst xs) ∧ (SqL K H b zs ∨ SqT K H b zs) ∧ xs.length + zs.length ≤ sizeLine ∧ Q .non (upd H l (.lst (xs ++ zs)))
theorem mt_extL {X : Cx} : MtM X "list.extend" (rExtL X.K) := by
  intro pins s σ H x vs v us Q I rx rv h
  obtain ⟨l, b, xs, zs, rfl, rfl, hH, hB, hz, q⟩ := h
  cases rx
  obtain ⟨u, rfl, ru⟩ := rv.one
  cases ru
  obtain ⟨z, its, n, r, hl, e⟩ := I.lstM hH
  have fin : ∀ {its2 : List Value}, Vals zs its2 → ∃ x H', Inv X pins σ H' { s with heap := s.heap.update l (Obj.mapSeq fun x => x ++ its2.toArray), toks := s.toks } ∧ RelV x Value.none ∧ Q x H' := fun {its2} r2 => by
    refine ⟨.non, _, I.lset (its' := its ++ its2) hH e (by simp) (r.append r2) ?_, rfl, q⟩
    rw [List.length_append]
    exact hz
  rcases hB with hB | hB
  · obtain ⟨its2, r2, ⟨o, n2, e2, hc, hd, hdt⟩, z2⟩ := I.list hB
    obtain ⟨oc, od, odt, osl⟩ := o
    cases hc; cases hd; cases hdt
    have hl2 := r2.length
    have hsz : its.toArray.size + its2.toArray.size ≤ sizeLine := by rw [List.size_toArray, List.size_toArray]; omega
    have hlong : ¬ (!its.toArray.isEmpty && Builtin.List.listTooLong (its.toArray.size + its2.toArray.size)) = true := by
      rw [notLongL hsz, Bool.and_false]
      exact Bool.false_ne_true
    exact call_meets PySem.F.slot_list_extend ⟨_, e, rfl⟩ PySem.F.entry_list_extend (PySem.F.args_list_extend_2 _ _) (extend_at l its.toArray n b its2.toArray n2 osl hlong (by rw [List.size_toArray]; omega) (by omega)) ⟨e, e2, fin r2⟩
  · obtain ⟨its2, r2, ⟨o, e2, hc, n2, hdt⟩, z2⟩ := I.tuple hB
    obtain ⟨oc, od, odt, osl⟩ := o
    cases hc; cases hdt
    have hl2 := r2.length
    have hsz : its.toArray.size + its2.toArray.size ≤ sizeLine := by rw [List.size_toArray, List.size_toArray]; omega
    have hlong : ¬ (!its.toArray.isEmpty && Builtin.List.listTooLong (its.toArray.size + its2.toArray.size)) = true := by
      rw [notLongL hsz, Bool.and_false]
      exact Bool.false_ne_true
    exact call_meets PySem.F.slot_list_extend ⟨_, e, rfl⟩ PySem.F.entry_list_extend (PySem.F.args_list_extend_2 _ _) (extend_tup_at l its.toArray n b its2.toArray n2 osl od hlong (by rw [List.size_toArray]; omega) (by omega)) ⟨e, e2, fin r2⟩
end Dm
end

section
set_option Elab.async false
set_option linter.all false
set_option autoImplicit true
set_option maxRecDepth 100000
set_option maxHeartbeats 1000000
/-! DStmt5: extend, pop, names moved; defs. -/
namespace Dm
open PySem PySem.Spec PyProof.Rows L2
section
variable {X : Cx} {T : List Addr} {e a b c : Expr} {es rest : List Expr} {f g h : E} {fs : List E} {pos p : Pos} {st : Stmt} {sts : List Stmt} {F G : Dm.S} {Fs : List Dm.S}
theorem s_ext (i : Nat) {x : Str} {p1 p2 p3 : Pos} (ha : DE X T a f) (hN : X.N[i]? = some x := by rfl) (hv : Vis X.env.scope x := by first | exact Or.inl rfl | exact Or.inr (Or.inl rfl) | exact Or.inr (Or.inr rfl)) (hd : (x == ("__debug__" : Str)) = false := by decide)
    (hcd : (x == ("__classdict__" : Str)) = false := by decide) (hs1 : starEach [a] X.env = (false, eval a X.env) :: starEach [] X.env := by rfl)
    (hbase : attributeBase (.Name x p1) "extend" X.env (eval (.Name x p1) X.env) = eval (.Name x p1) X.env := by rfl)
    (hfew : ((backTo p3 (starEach [a] X.env)).all (fun x => !x.1) && (backToKw p3 (keywordEach [] X.env)).all (fun x => x.1.isSome) && decide ([a].length + ([] : List Keyword).length + (if ([] : List Keyword).isEmpty then 0 else 1) < 30)) = true := by rfl)
    (hline : (p2.endLine == p3.line) = true := by rfl) (hsw : swapsWith (.Call (.Attribute (.Name x p1) "extend" p2) [a] [] p3) none pos.line X.env = pure false := by rfl) :
    DS X T (.Expr (.Call (.Attribute (.Name x p1) "extend" p2) [a] [] p3) pos) (sExt i (seqI f)) :=
  ⟨PS.imp (ps_expr (pe_bm PySem.F.plainAttrs_list PySem.F.slot_list_extend PySem.F.type_list_extend mt_extL (pe_var hN hv hd hcd) (a_cons ha a_nil hs1).pa hbase hfew hline hs1 (by rfl)) hsw) fun Z σ H ⟨O, S, r, y, o, ef, q⟩ => by
    simp only [sExt, Option.bind_eq_bind, Option.bind_eq_some_iff] at ef
    obtain ⟨zs, e1, d2, e2, e3⟩ := ef
    replace e2 := own_some e2
    split at e3
    · rename_i ds _
      split at e3
      · rename_i hz
        cases e3
        obtain ⟨l, hl, hm, hO, ow⟩ := o.at e2
        obtain ⟨xs, hx, rr⟩ := ow.list
        have go : ∀ d, f r = some d → (∀ v H', Rp X.K (mns S H') v d → ∃ b us, v = .ref b ∧ (SqL X.K H' b us ∨ SqT X.K H' b us) ∧ RpAll X.K (mns S H') us zs) →
            tDrop (tBM X.K "list" (rExtL X.K) (tVar i) (tDA X.K T [f])) Z σ H := fun d ed hd => by
          refine ⟨_, hl, .inl ⟨rfl, xs, .inl (.inl hx)⟩, S, r, [d], o.env, by simp [argsE, ed], fun vs H1 n1 rp => ?_⟩
          cases rp with
          | cons ra rb =>
            cases rb
            obtain ⟨b, us, rfl, hs, rz⟩ := hd _ H1 ra
            have hx1 : H1 l = some (.lst xs) := n1.ext _ _ hx fun _ z => by cases z
            have rr1 := rr.le (le_mns (S := S) n1.le)
            refine ⟨l, b, xs, us, rfl, rfl, hx1, hs, by rw [rr.length, rz.length]; exact lenOk_le hz, ?_⟩
            obtain ⟨s2, a2⟩ := (o.nxt n1).write (v := .lst (xs ++ us)) e2 hl hm hO hx1 (NT.lst _) (NT.lst _) (.lst upd_same (by rw [mns_upd' hm]; exact rr1.append rz))
            exact q S σ _ s2 (n1.aft.trans a2)
        rcases seqI_some e1 with e1 | e1
        · exact go _ e1 fun v H' rv => by
            obtain ⟨b, us, rfl, h1, h2⟩ := RpB.list (.inl rv)
            exact ⟨b, us, rfl, .inl h1, h2⟩
        · exact go _ e1 fun v H' rv => by
            obtain ⟨b, us, rfl, h1, h2⟩ := RpB.tuple (.inl rv)
            exact ⟨b, us, rfl, .inr (.inl (.inl h1)), h2⟩
      · cases e3
    · cases e3⟩
theorem RpAll.dropLast {K : PySem.W.Frag} {H : Hp} : ∀ {vs : List V} {ds : List D}, RpAll K H vs ds → RpAll K H vs.dropLast ds.dropLast
  | _, _, .nil => .nil
  | _, _, .cons a .nil => .nil
  | _, _, .cons a (.cons b t) => .cons a (RpAll.dropLast (.cons b t))
/-- tg = x.pop() -/
theorem s_pop {tg : Expr} {t : Tg} (i : Nat) {x : Str} {p1 p2 p3 : Pos} (hg : DG X T tg t) (hN : X.N[i]? = some x := by rfl) (hv : Vis X.env.scope x := by first | exact Or.inl rfl | exact Or.inr (Or.inl rfl) | exact Or.inr (Or.inr rfl)) (hd : (x == ("__debug__" : Str)) = false := by decide)
    (hcd : (x == ("__classdict__" : Str)) = false := by decide)
    (hbase : attributeBase (.Name x p1) "pop" X.env (eval (.Name x p1) X.env) = eval (.Name x p1) X.env := by rfl)
    (hline : (p2.endLine == p3.line) = true := by rfl) (hs : swapsWithSole [tg] (.Call (.Attribute (.Name x p1) "pop" p2) [] [] p3) pos.line X.env = pure false := by rfl) (hw : swappedStores [tg] (.Call (.Attribute (.Name x p1) "pop" p2) [] [] p3) X.env = pure none := by rfl)
    (h1 : (assignEach [tg] X.env).map (·.2) = [assign tg X.env] := by rfl) :
    DS X T (.Assign [tg] (.Call (.Attribute (.Name x p1) "pop" p2) [] [] p3) pos) (sPop t i) :=
  ⟨PS.imp (ps_asg (pe_bm0 PySem.F.plainAttrs_list PySem.F.slot_list_pop PySem.F.type_list_pop mt_pop (pe_var hN hv hd hcd) hbase hline) hg.pg hs hw h1) fun Z σ H ⟨O, S, r, y, o, ef, q⟩ => by
    simp only [sPop, Option.bind_eq_bind, Option.bind_eq_some_iff] at ef
    obtain ⟨d2, e2, e3⟩ := ef
    replace e2 := own_some e2
    split at e3
    · rename_i ds _
      split at e3
      · rename_i d hlast
        simp only [Option.bind_eq_bind, Option.bind_eq_some_iff] at e3
        obtain ⟨r', e4, e5⟩ := e3
        cases e5
        obtain ⟨l, hl, hm, hO, ow⟩ := o.at e2
        obtain ⟨xs, hx, rr⟩ := ow.list
        rw [List.getLast?_eq_getElem?] at hlast
        obtain ⟨v, hv', rv⟩ := rr.get hlast
        rw [← rr.length] at hv'
        refine ⟨_, hl, .inl ⟨rfl, xs, .inl (.inl hx)⟩, l, xs, v, rfl, rfl, hx, hv', ?_⟩
        obtain ⟨s2, a2⟩ := o.write (v := .lst xs.dropLast) e2 hl hm hO hx (NT.lst _) (NT.lst _) (.lst upd_same (by rw [mns_upd' hm]; exact rr.dropLast))
        exact ⟨S, _, d, r', s2.env, by rw [mns_upd' hm]; exact rv, e4, fun σ' o' u' => q S σ' _ (s2.asg e4 o' u') a2⟩
      · cases e3
    · cases e3⟩
/-- tg = x.pop(0) -/
theorem s_pop0 {tg : Expr} {t : Tg} (i : Nat) {x : Str} {p1 p2 p3 p4 : Pos} {j4 : Nat} (hg : DG X T tg t) (hN : X.N[i]? = some x := by rfl) (hv : Vis X.env.scope x := by first | exact Or.inl rfl | exact Or.inr (Or.inl rfl) | exact Or.inr (Or.inr rfl)) (hd : (x == ("__debug__" : Str)) = false := by decide)
    (hcd : (x == ("__classdict__" : Str)) = false := by decide) (hs1 : starEach [.Constant (.int 0) j4 p4] X.env = (false, eval (.Constant (.int 0) j4 p4) X.env) :: starEach [] X.env := by rfl)
    (hbase : attributeBase (.Name x p1) "pop" X.env (eval (.Name x p1) X.env) = eval (.Name x p1) X.env := by rfl)
    (hfew : ((backTo p3 (starEach [.Constant (.int 0) j4 p4] X.env)).all (fun x => !x.1) && (backToKw p3 (keywordEach [] X.env)).all (fun x => x.1.isSome) && decide ([Expr.Constant (.int 0) j4 p4].length + ([] : List Keyword).length + (if ([] : List Keyword).isEmpty then 0 else 1) < 30)) = true := by rfl)
    (hline : (p2.endLine == p3.line) = true := by rfl) (hs : swapsWithSole [tg] (.Call (.Attribute (.Name x p1) "pop" p2) [.Constant (.int 0) j4 p4] [] p3) pos.line X.env = pure false := by rfl)
    (hw : swappedStores [tg] (.Call (.Attribute (.Name x p1) "pop" p2) [.Constant (.int 0) j4 p4] [] p3) X.env = pure none := by rfl) (h1 : (assignEach [tg] X.env).map (·.2) = [assign tg X.env] := by rfl) :
    DS X T (.Assign [tg] (.Call (.Attribute (.Name x p1) "pop" p2) [.Constant (.int 0) j4 p4] [] p3) pos) (sPop0 t i) :=
  ⟨PS.imp (ps_asg (pe_bm PySem.F.plainAttrs_list PySem.F.slot_list_pop PySem.F.type_list_pop mt_popAt (pe_var hN hv hd hcd) (a_cons (T := T) e_int a_nil hs1).pa hbase hfew hline hs1 (by rfl)) hg.pg hs hw h1) fun Z σ H ⟨O, S, r, y, o, ef, q⟩ => by
    simp only [sPop0, Option.bind_eq_bind, Option.bind_eq_some_iff] at ef
    obtain ⟨d2, e2, e3⟩ := ef
    replace e2 := own_some e2
    split at e3
    · rename_i d ds
      simp only [Option.bind_eq_bind, Option.bind_eq_some_iff] at e3
      obtain ⟨r', e4, e5⟩ := e3
      cases e5
      obtain ⟨l, hl, hm, hO, ow⟩ := o.at e2
      obtain ⟨xs, hx, rr⟩ := ow.list
      cases rr with
      | cons rv rr =>
        rename_i v xs
        refine ⟨_, hl, .inl ⟨rfl, _, .inl (.inl hx)⟩, S, r, [.int 0], o.env, by simp [argsE, kE], fun vs H1 n1 rp => ?_⟩
        cases rp with
        | cons ra rb =>
          cases ra
          cases rb
          have hx1 : H1 l = some (.lst (v :: xs)) := n1.ext _ _ hx fun _ z => by cases z
          have rr1 := rr.le (le_mns (S := S) n1.le)
          have rv1 := rv.le (le_mns (S := S) n1.le)
          refine ⟨l, _, 0, 0, v, rfl, rfl, hx1, by decide, by decide, by simp [seqIndex?], rfl, ?_⟩
          obtain ⟨s2, a2⟩ := (o.nxt n1).write (v := .lst xs) e2 hl hm hO hx1 (NT.lst _) (NT.lst _) (.lst upd_same (by rw [mns_upd' hm]; exact rr1))
          exact ⟨S, _, d, r', s2.env, by rw [mns_upd' hm]; exact rv1, e4, fun σ' o' u' => q S σ' _ (s2.asg e4 o' u') (n1.aft.trans a2)⟩
    · cases e3⟩

/-! ### an own list or dict is told of from now on, and not written any more -/
theorem SOk.give {K : PySem.W.Frag} {O S : List Addr} {H : Hp} {σ : L2.St} {r : Env} {i : Nat} {q : Addr} {d : D} (o : SOk K T O S H σ r) (hi : r[i]? = some (.ow d)) (hs : σ[i]? = some (some (.ref q))) :
    ∃ S', SOk K T O S' H σ (r.set i (.va d)) ∧ Aft T O S H S' H ∧ Rp K (mns S' H) (.ref q) d := by
  obtain ⟨q', e1, hm, hO, ow⟩ := o.at hi
  rw [hs] at e1
  cases e1
  have sub : ∀ a ∈ S.filter (fun a => decide (a ≠ q)), a ∈ S := fun a ha => (List.mem_filter.mp ha).1
  have hq : q ∉ S.filter (fun a => decide (a ≠ q)) := fun z => by simpa using (List.mem_filter.mp z).2
  have l : Le (mns S H) (mns (S.filter fun a => decide (a ≠ q)) H) := le_sub sub
  have rq := ow.rp hq sub
  refine ⟨S.filter (fun a => decide (a ≠ q)), ⟨⟨o.env.tabs, fun a ha => o.env.live a (sub a ha), by rw [List.length_set]; exact o.env.len, fun j v sl h1 h2 => ?_, fun j k p' x y h1 h2 h3 h4 => ?_⟩, fun a ha => List.mem_filter.mpr ⟨o.sub a ha, by simpa using fun z : a = q => hO (by rw [← z]; exact ha)⟩, fun j x p' h1 h2 => ?_⟩, aft_sub o.env.tabs sub, rq⟩
  · by_cases hj : i = j
    · subst hj
      obtain ⟨h3, h4⟩ := List.getElem?_eq_some_iff.mp h2
      rw [List.getElem_set_self] at h4
      subst h4
      rw [hs] at h1
      cases h1
      exact ⟨_, rfl, rq⟩
    · rw [List.getElem?_set_ne hj] at h2
      have z := o.env.slot j v sl h1 h2
      cases sl with
      | no => exact z
      | va d => obtain ⟨x, z1, z2⟩ := z; exact ⟨x, z1, z2.le l⟩
      | ow d =>
        obtain ⟨p', z1, z2, z3⟩ := z
        have hne : p' ≠ q := fun z => by subst z z1; exact hj (o.env.inj i j _ _ _ hi h2 hs h1)
        refine ⟨p', z1, List.mem_filter.mpr ⟨z2, by simpa using hne⟩, ?_⟩
        cases z3 with
        | lst e r => exact .lst e (r.le l)
        | dk e r => exact .dk e (r.le l)
        | dt e r => exact .dt e (r.le l)
  · by_cases hj : i = j
    · subst hj
      obtain ⟨_, z⟩ := List.getElem?_eq_some_iff.mp h1
      rw [List.getElem_set_self] at z; cases z
    · by_cases hk : i = k
      · subst hk
        obtain ⟨_, z⟩ := List.getElem?_eq_some_iff.mp h2
        rw [List.getElem_set_self] at z; cases z
      · rw [List.getElem?_set_ne hj] at h1
        rw [List.getElem?_set_ne hk] at h2
        exact o.env.inj j k p' x y h1 h2 h3 h4
  · by_cases hj : i = j
    · subst hj
      obtain ⟨_, z⟩ := List.getElem?_eq_some_iff.mp h1
      rw [List.getElem_set_self] at z; cases z
    · rw [List.getElem?_set_ne hj] at h1
      exact o.own j x p' h1 h2
/-- y = x -/
theorem s_move (i j : Nat) {x y : Str} {p' : Pos} (hNd : X.N.Nodup) (hN : X.N[j]? = some x := by rfl) (hi : X.N[i]? = some y := by rfl) (hv : Vis X.env.scope x := by first | exact Or.inl rfl | exact Or.inr (Or.inl rfl) | exact Or.inr (Or.inr rfl)) (hx : Loc X.env.scope y := by first | exact Or.inl rfl | exact Or.inr rfl)
    (hd : (x == ("__debug__" : Str)) = false := by decide) (hcd : (x == ("__classdict__" : Str)) = false := by decide) (hs : swapsWith (.Name x p) (some (.Name y p')) pos.line X.env = pure false := by rfl)
    (hf : X.fn y = true ∨ X.env.scope.names.lookup y = some .local := by first | exact .inl rfl | exact .inr rfl) : DS X T (.Assign [.Name y p'] (.Name x p) pos) (sMove i j) := ⟨PS.imp (ps_set hNd hi hx (pe_var hN hv hd hcd) hs hf) fun Z σ H ⟨O, S, r, w, o, ef, q⟩ => by
  unfold sMove at ef
  split at ef
  · rename_i d hj
    cases ef
    obtain ⟨l, hl, hm, hO, ow⟩ := o.at hj
    obtain ⟨S', s', a', rq⟩ := o.give hj hl
    refine ⟨_, hl, ?_⟩
    refine q S' _ H ?_ a'
    exact s'.asg (t := .nm i) (d := d) rfl (s'.env.setVa rq) ⟨List.length_set, fun k hk => List.getElem?_set_ne fun z => hk (by simp [Tg.slots, z])⟩
  · cases ef⟩
/-- x.append(y) -/
theorem s_appMv (i j : Nat) {x y : Str} {p1 p2 p3 p4 : Pos} (hN : X.N[i]? = some x := by rfl) (hM : X.N[j]? = some y := by rfl) (hv : Vis X.env.scope x := by first | exact Or.inl rfl | exact Or.inr (Or.inl rfl) | exact Or.inr (Or.inr rfl)) (hd : (x == ("__debug__" : Str)) = false := by decide)
    (hcd : (x == ("__classdict__" : Str)) = false := by decide) (hv2 : Vis X.env.scope y := by first | exact Or.inl rfl | exact Or.inr (Or.inl rfl) | exact Or.inr (Or.inr rfl)) (hd2 : (y == ("__debug__" : Str)) = false := by decide)
    (hcd2 : (y == ("__classdict__" : Str)) = false := by decide) (hs1 : starEach [.Name y p4] X.env = (false, eval (.Name y p4) X.env) :: starEach [] X.env := by rfl)
    (hbase : attributeBase (.Name x p1) "append" X.env (eval (.Name x p1) X.env) = eval (.Name x p1) X.env := by rfl)
    (hfew : ((backTo p3 (starEach [.Name y p4] X.env)).all (fun x => !x.1) && (backToKw p3 (keywordEach [] X.env)).all (fun x => x.1.isSome) && decide ([Expr.Name y p4].length + ([] : List Keyword).length + (if ([] : List Keyword).isEmpty then 0 else 1) < 30)) = true := by rfl)
    (hline : (p2.endLine == p3.line) = true := by rfl) (hsw : swapsWith (.Call (.Attribute (.Name x p1) "append" p2) [.Name y p4] [] p3) none pos.line X.env = pure false := by rfl) :
    DS X T (.Expr (.Call (.Attribute (.Name x p1) "append" p2) [.Name y p4] [] p3) pos) (sAppMv i j) :=
  ⟨PS.imp (ps_expr (pe_bm PySem.F.plainAttrs_list PySem.F.slot_list_append PySem.F.type_list_append mt_append (pe_var hN hv hd hcd) (pa_cons (pe_var hM hv2 hd2 hcd2) pa_nil) hbase hfew hline hs1 (by rfl)) hsw) fun Z σ H ⟨O, S, r, w, o, ef, q⟩ => by
    simp only [sAppMv, Option.bind_eq_bind, Option.bind_eq_some_iff] at ef
    obtain ⟨d, e1, d2, e2, e3⟩ := ef
    replace e1 := own_some e1
    replace e2 := own_some e2
    split at e3
    · rename_i ds
      split at e3
      · rename_i hz
        cases e3
        obtain ⟨hz, hij⟩ := Bool.and_eq_true_iff.mp hz
        have hij : i ≠ j := of_decide_eq_true hij
        obtain ⟨l, hl, hm, hO, ow⟩ := o.at e2
        obtain ⟨m, hm2, _⟩ := o.at e1
        obtain ⟨S', s', a', rq⟩ := o.give e1 hm2
        have e2' : (r.set j (.va d))[i]? = some (.ow (.list ds)) := by rw [List.getElem?_set_ne (Ne.symm hij)]; exact e2
        obtain ⟨l', hl', hm', hO', ow'⟩ := s'.at e2'
        rw [hl] at hl'
        cases hl'
        obtain ⟨xs, hx, rr⟩ := ow'.list
        refine ⟨_, hl, .inl ⟨rfl, xs, .inl (.inl hx)⟩, _, hm2, l, xs, _, rfl, rfl, hx, by rw [rr.length]; exact lenOk_lt hz, ?_⟩
        obtain ⟨s2, a2⟩ := s'.write (v := .lst (xs ++ [_])) e2' hl hm' hO' hx (NT.lst _) (NT.lst _) (.lst upd_same (by rw [mns_upd' hm']; exact rr.append (.cons rq .nil)))
        exact q S' σ _ s2 (a'.trans a2)
      · cases e3
    · cases e3⟩
end

/-! ### defs -/
section
variable {P : Program} {w : World} {K : PySem.W.Frag} {mg : Str → Option Value} {base : Heap} {T : List Addr}
theorem FunD.okC {x qual : Str} {params : Arguments} {body : List Stmt} {scope : Scope} {dvs : List V} {kws : List (Str × V)} {f : Addr} {fd : FuncData} {CX : CXT} {N ps : List Str} {k : Nat} {sp : Sp} (F : FunD K x qual params body scope dvs kws f fd) (S : FnScope N ps scope) (len : ∀ vs H Q E, sp vs H Q E → vs.length = ps.length)
    (hbody : ∀ (A : Around) (outer : List PySem.Env) (s : Shared) (H : Hp) (vs : List V) (Q : VK) (E : XK), Room k (A.deeper (envOfC qual scope s.heap.objs.size f fd.code)) → sp vs H Q E →
      ∃ t, PSs (cxOf CX P w K mg base N qual scope f fd.code A outer s H E) body t ∧ t { nx := fun _ H' => Q .non H', rt := Q } (L2.start N vs) H) : FnOk P w K mg base CX (k + 1) f fd ps sp := by
  obtain ⟨oc, od, dV, kV, doc, pm, an, cdv, ct, osl, rfl, lk, hcd, _, _⟩ := F.ex
  exact fn_of lk hcd S len fun A outer s H vs Q E hr hsp => hbody A outer s H vs Q E hr hsp
theorem def_env {K : PySem.W.Frag} {O : List Addr} {H : Hp} {vs : List V} {ds : List D} {n : Nat} {N : List Str} (ht : Dm.Tabs T H) (lv : Live O H) (r : RpAll K (mns O H) vs ds) (hn : vs.length ≤ N.length) : SOk K T O O H (L2.start N vs) (ds.map .va ++ List.replicate (N.length - ds.length) .no) := by
  have hl := r.length
  refine ⟨⟨ht, lv, by simp [L2.start, hl], fun i v sl a b => ?_, fun i j p d e a => ?_⟩, fun a h => h, fun i d p a => ?_⟩
  · by_cases hi : i < ds.length
    · rw [List.getElem?_append_left (by simpa using hi), List.getElem?_map, List.getElem?_eq_getElem hi] at b
      simp at b
      subst b
      rw [L2.start, List.getElem?_append_left (by simp [hl, hi]), List.getElem?_map, List.getElem?_eq_getElem (by rw [hl]; exact hi)] at a
      simp at a
      subst a
      obtain ⟨u, h1, h2⟩ := r.get (List.getElem?_eq_getElem hi)
      rw [List.getElem?_eq_getElem (by rw [hl]; exact hi)] at h1
      cases h1
      exact ⟨_, rfl, h2⟩
    · rw [List.getElem?_append_right (by simpa using Nat.le_of_not_lt hi)] at b
      have := (List.getElem?_eq_some_iff.mp b).2
      simp at this
      subst this
      exact True.intro
  · exfalso
    by_cases hi : i < ds.length
    · rw [List.getElem?_append_left (by simpa using hi), List.getElem?_map, List.getElem?_eq_getElem hi] at a
      simp at a
    · rw [List.getElem?_append_right (by simpa using Nat.le_of_not_lt hi)] at a
      have := (List.getElem?_eq_some_iff.mp a).2
      simp at this
  · exfalso
    by_cases hi : i < ds.length
    · rw [List.getElem?_append_left (by simpa using hi), List.getElem?_map, List.getElem?_eq_getElem hi] at a
      simp at a
    · rw [List.getElem?_append_right (by simpa using Nat.le_of_not_lt hi)] at a
      have := (List.getElem?_eq_some_iff.mp a).2
      simp at this
theorem fn_ok {x : Str} {N ps : List Str} {params : Arguments} {body : List Stmt} {scope : Scope} {f : Addr} {fd : FuncData} {k : Nat} {F : Dm.S} (Fn : FunD K x x params body scope [] [] f fd) (S : FnScope N ps scope) (hn : ps.length ≤ N.length)
    (hb : ∀ (A : Around) (outer : List PySem.Env) (s : Shared) (H : Hp) (E : XK), Room k (A.deeper (envOfC x scope s.heap.objs.size f fd.code)) → DSs (cxOf CX0 P w K mg base N x scope f fd.code A outer s H E).nox T body F) :
    FnOk P w K mg base CX0 (k + 1) f fd ps (spD K T ps.length (dDef ps.length N.length F)) := by
  refine FunD.okC Fn S (fun vs H Q E ⟨O, ds, r, hl, _⟩ => hl) fun A outer s H vs Q E hr ⟨O, ds, r, hl, ht, lv, rp, ef, q⟩ => ?_
  refine ⟨_, (hb A outer s H E hr).ps.nox, ?_⟩
  have hl2 := rp.length
  unfold dDef at ef
  rw [if_pos (hl2.symm.trans hl)] at ef
  have so := def_env (K := K) (n := 0) (N := N) ht lv rp (by rw [hl]; exact hn)
  rw [← hl2, hl] at so
  split at ef
  · rename_i d hd
    cases ef
    exact ⟨O, O, _, _, so, hd, fun v S' H' a rv => q v H' a.nxt rv⟩
  · rename_i r' hd
    cases ef
    exact ⟨O, O, _, _, so, hd, fun S' σ' H' o' a => q .non H' a.nxt .non⟩
  · cases ef
theorem def_ok {x : Str} {N ps : List Str} {params : Arguments} {body : List Stmt} {scope : Scope} {f : Addr} {fd : FuncData} {k : Nat} {F : Dm.S} (Fn : FunD K x x params body scope [] [] f fd) (hm : mg x = some (.ref f)) (S : FnScope N ps scope) (hn : ps.length ≤ N.length) (hB : Binds K fd ps [])
    (hb : ∀ (A : Around) (outer : List PySem.Env) (s : Shared) (H : Hp) (E : XK), Room k (A.deeper (envOfC x scope s.heap.objs.size f fd.code)) → DSs (cxOf CX0 P w K mg base N x scope f fd.code A outer s H E).nox T body F) :
    DefOk P w K mg base T x (k + 1) ps.length (dDef ps.length N.length F) := ⟨f, fd, ps, fn_ok Fn S hn hb, hm, Fn.kp, hB⟩
/-- a def that is never called -/
theorem def_none {x : Str} {N ps : List Str} {params : Arguments} {body : List Stmt} {scope : Scope} {f : Addr} {fd : FuncData} {k n : Nat} (Fn : FunD K x x params body scope [] [] f fd) (hm : mg x = some (.ref f)) (hB : Binds K fd ps []) (hn : ps.length = n) :
    DefOk P w K mg base T x k n (fun _ => none) := ⟨f, fd, ps, ⟨fun vs H Q E ⟨O, ds, r, hl, _, _, _, ef, _⟩ => (by cases ef), fun A outer s H args us vs Q E _ _ _ _ ⟨O, ds, r, hl, _, _, _, ef, _⟩ => (by cases ef)⟩, hm, Fn.kp, hB⟩
end
end Dm
end

section
set_option Elab.async false
set_option linter.all false
set_option autoImplicit true
set_option maxRecDepth 100000
set_option maxHeartbeats 2000000
/-! DGen: all, any of a generator expression. -/
namespace Dm
open PySem PySem.Spec PyProof.Rows L2

theorem over_gen {A : Around} {elt : Expr} {gs : List Comprehension} {scope : Scope} {pos : Pos} {it acc : Value} {env : PySem.Env} : A.over (.compLoop (.GeneratorExp elt gs scope pos) 0 it acc env) [] = A.deeper env := by
  first
    | rfl
    | (obtain ⟨hd, d, fr, gd, u⟩ := A; simp [Around.over, Around.deeper, marksOver, frameCount, unitsOf, envsOf, guardsOf, pushEnvs, pushGuards, Code.envs, Code.env?, Code.isFrame, Code.guards, Code.isGuard, Code.weight, Code.frames, Code.isCreation, Code.isCaller, Code.cUnits])
/-- the context of a generator expression's frame: laid at C behind s, the generator's object go at a -/
abbrev gcx (X : Cx) (s : Shared) (H : Hp) (scope : Scope) (cl : List (Str × Addr)) (C : Addr) (code : Value) (fp : List Addr) (a : Addr) (go : Obj) : Cx :=
  { X with s_0 := s, H_0 := H, env := genEnv scope cl C code builtinsNs X.env, outer := X.stack, stack := genEnv scope cl C code builtinsNs X.env :: X.stack, ex := fp, fn := fun _ => false, pn := [(a, go)], A := X.A.in1.in1.deeper (genEnv scope cl C code builtinsNs X.env), xe := fun _ _ => False }
theorem room_gen {X : Cx} {k : Nat} (r : Room (k + 1) X.A) {env : PySem.Env} : Room k (X.A.in1.in1.deeper env) :=
  ⟨r.hd, by have := r.dp; show X.A.depth + 1 + 3 * k + 5 < _; omega, by have := r.un; show X.A.units + 1 + 1 + 3 + 16 * k + 200 < _; omega⟩
section
variable {X : Cx} {pins : List (Addr × Obj)} {σ : L2.St} {H : Hp} {s : Shared}
theorem gen_start {scope : Scope} {own : List (Str × Nat)} {fp : List Addr} {code : Value} {go : Obj} {h1 h2 : Heap} {gs : GenState} {tk : Nat} {m : Str → Option Value} (I : Inv X pins σ H s) (ok : BlkOk X.N X.env.scope scope own) (hN : X.N.Nodup)
    (hcell : ∀ y ∈ scope.names, y.2 ≠ .cell) (hfp : ∀ b ∈ fp, FpOk X pins H b ∧ b < s.heap.objs.size) (hgs : gs.bare = true) (hgo : ∀ v, go.data ≠ .cell v) (hns : h1.Ns s.heap.objs.size m) (hk1 : ∀ b o, s.heap.get? b = some o → h1.get? b = some o)
    (hz : h1.objs.size = s.heap.objs.size + 1) (e2 : h2 = h1.push go) (hgt : h2.get? h1.objs.size = some go) (hk2 : ∀ b o, h1.get? b = some o → h2.get? b = some o) :
    Inv (gcx X s H scope (cloFrom X.env.cells scope.names []) s.heap.objs.size code fp h1.objs.size go) [] (L2.wipe σ (own.map (·.2))) H { s with gens := s.gens.push gs, toks := tk, heap := h2 } := by
  have hk : ∀ b o, s.heap.get? b = some o → h2.get? b = some o := fun b o e => hk2 b o (hk1 b o e)
  have hfree : ∀ y ∈ scope.names, y.2 = .free → ∃ c, X.env.cells.lookup y.1 = some c := fun y hy e => by
    rcases ok.free y hy e with k | k
    · exact I.ok.has _ (.inl k)
    · exact I.ok.has _ (.inr k)
  have cm : ∀ {y c}, (y, c) ∈ cloFrom X.env.cells scope.names [] → X.env.cells.lookup y = some c ∧ c < s.heap.objs.size := fun {y c} hm => by
    rcases cloFrom_mem hm with hm | ⟨q1, rfl⟩
    · cases hm
    · obtain ⟨c, hc⟩ := hfree _ q1 rfl
      rw [hc]
      obtain ⟨w, z⟩ := I.cell _ _ hc
      exact ⟨rfl, z.lt⟩
  have cl : ∀ {y c}, (cloFrom X.env.cells scope.names []).lookup y = some c → X.env.cells.lookup y = some c ∧ c < s.heap.objs.size := fun {y c} e => cm (PySem.mem_of_lookup e)
  have look : ∀ {y}, scope.names.lookup y = some .free → ∃ c, (cloFrom X.env.cells scope.names []).lookup y = some c ∧ X.env.cells.lookup y = some c := fun {y} hl => by
    obtain ⟨c', e'⟩ := mem_lookup (cloFrom_has (cells := X.env.cells) (acc := []) (PySem.mem_of_lookup hl))
    exact ⟨c', e', (cl e').1⟩
  have okG : (gcx X s H scope (cloFrom X.env.cells scope.names []) s.heap.objs.size code fp h1.objs.size go).Ok := by
    refine ⟨I.ok.mod, ok.kind, I.ok.glob, rfl, Nat.le_refl _, fun x y c e1 e2 => I.ok.inj x y c (cl e1).1 (cl e2).1, fun y hy => ?_, fun y c z => (by cases z), I.ok.hd, ?_, .inr ⟨rfl, rfl⟩, fun b hb => ⟨Nat.ne_of_lt (hfp b hb).2, fun y c e z => ?_⟩, I.bs, Nat.le_trans I.ok.bsz I.sz, fun b o e hb => ?_, fun b hb z => ?_, I.stack, I.stkFree⟩
    · rcases hy with hy | hy
      · exact absurd rfl (hcell _ (PySem.mem_of_lookup (show scope.names.lookup y = some .cell from hy)))
      · obtain ⟨c, q, _⟩ := look (show scope.names.lookup y = some .free from hy)
        exact ⟨c, q⟩
    · show (X.A.in1.in1.deeper _).frames = _
      have := I.ok.frames
      show (X.A.frames).map _ = _
      rw [this]; rfl
    · exact (hfp b hb).1.2.2.2.2.1 y c (cl e).1 z
    · rcases (hfp b hb).1.2.2.2.1 with z | z
      · exact I.ok.noex b o e z
      · exact absurd (Nat.lt_of_lt_of_le (Heap.lt_size e) (Nat.le_trans I.ok.bsz z)) (Nat.lt_irrefl _)
    · rcases List.mem_cons.mp (I.stkSub b z) with z | z
      · exact (hfp b hb).1.2.1 z
      · exact (hfp b hb).1.2.2.1 z
  refine ⟨okG, rfl, AllBare.push I.bare hgs, Un.kept hk, ⟨m, ?_, fun i y av q1 q2 q3 => ?_⟩, fun y c e => ?_, I.hok.fresh (Nat.le_refl _), fun y c e => I.freeC y c (cl e).1, fun p hp => ?_, I.hok.kept hk, by rw [wipe_length]; exact I.len⟩
  · show h2.Ns _ m
    exact hns.keeps hk2
  · obtain ⟨q2, hne⟩ := wipe_some q2
    have hfr : scope.names.lookup y = some .free := by
      have no : ∀ k, scope.names.lookup y = some k → ¬ (k = .local ∨ k = .cell) := fun k e hh => by
        rcases ok.own _ (PySem.mem_of_lookup e) hh with e' | e'
        · obtain ⟨p, hp, hpy⟩ := List.mem_map.mp e'
          have e3 := ok.ix p hp
          have e4 : p.1 = y := hpy
          rw [e4] at e3
          exact hne (List.mem_map.mpr ⟨p, hp, nodup_ix hN e3 q1⟩)
        · exact e' (List.mem_of_getElem? q1)
      have q3 : Vis scope y := q3
      rcases q3 with q3 | q3 | q3
      · exact absurd (.inl rfl) (no _ q3)
      · exact absurd (.inr rfl) (no _ q3)
      · exact q3
    obtain ⟨mm, hn, hl⟩ := I.loc
    have hvis : Vis X.env.scope y := (ok.free _ (PySem.mem_of_lookup hfr) rfl).elim (fun k => .inr (.inl k)) (fun k => .inr (.inr k))
    obtain ⟨w, r, q⟩ := hl i y av q1 q2 hvis
    obtain ⟨c, c1, c2⟩ := look hfr
    refine ⟨w, r, .inr ⟨.inr hfr, c, c1, ?_⟩⟩
    rcases q with ⟨k, _⟩ | ⟨_, c', e', z⟩
    · have k : X.env.scope.names.lookup y = some .local := k
      rcases ok.free _ (PySem.mem_of_lookup hfr) rfl with k' | k' <;> rw [show X.env.scope.names.lookup y = _ from k'] at k <;> cases k
    · rw [c2] at e'; cases e'
      exact z.keeps hk
  · obtain ⟨w, z⟩ := I.cell y c (cl e).1
    exact ⟨w, z.keeps hk⟩
  · have hp : p ∈ [(h1.objs.size, go)] ++ [] := hp
    simp at hp
    subst hp
    have big : s.heap.objs.size ≤ h1.objs.size := by rw [hz]; exact Nat.le_succ _
    refine ⟨hgt, I.hok.fresh big, by show h1.objs.size ≠ s.heap.objs.size; rw [hz]; exact Nat.succ_ne_self _, fun z => ?_, hgo⟩
    have z : h1.objs.size ∈ frs X.stack := z
    rcases List.mem_cons.mp (I.stkSub _ z) with z | z
    · have := I.lt
      rw [← z] at this
      exact absurd (Nat.lt_of_lt_of_le this big) (Nat.lt_irrefl _)
    · exact I.nofs big z
end
end Dm
end

section
set_option Elab.async false
set_option linter.all false
set_option autoImplicit true
set_option maxRecDepth 100000
set_option maxHeartbeats 2000000
/-! DGen2: a generator expression's run. -/
namespace Dm
open PySem PySem.Spec PyProof.Rows L2
theorem inv_same {X : Cx} {pins : List (Addr × Obj)} {σ : L2.St} {H : Hp} {s s' : Shared} (I : Inv X pins σ H s) (h : s'.heap = s.heap) (ho : s'.os = s.os) (hb : AllBare s'.gens) : Inv X pins σ H s' := by
  obtain ⟨h', g', d', t', o'⟩ := s'
  cases (show h' = s.heap from h)
  cases (show o' = s.os from ho)
  exact ⟨I.ok, I.os, hb, I.base, I.loc, I.cell, I.free, I.freeC, I.pin, I.hok, I.len⟩
/-- what a generator expression's frame stands for: who made it, and what is asked -/
structure Gn where
  X : Cx
  T : List Addr
  S : List Addr
  r : Env
  σ : L2.St
  s : Shared
  H : Hp
  scope : Scope
  cl : List (Str × Addr)
  code : Value
  fp : List Addr
  a : Addr
  go : Obj
  gz : Nat
  own : List Nat
  tg : Tg
  ts : Dm.T
  el : E
  w : Bool
  res : Bool
  ds : List D
abbrev Gn.gx (g : Gn) : Cx := gcx g.X g.s g.H g.scope g.cl g.s.heap.objs.size g.code g.fp g.a g.go
abbrev Gn.A (g : Gn) : Around := g.X.A.in1.in1
/-- the frame between two turns -/
def Gn.Rest (g : Gn) (H : Hp) (s : Shared) : Prop := Inv g.gx [] (L2.wipe g.σ g.own) H s ∧ Nxt g.T g.H H ∧ g.gz ≤ s.gens.size
def Gn.E (g : Gn) (s : Shared) : Prop := g.res = g.w ∧ ∃ H, g.Rest H s
def Gn.R (g : Gn) : GenEnd := fun _ _ r s => r = .ok .next ∧ g.E s
def Gn.Y (g : Gn) : Protocol := fun _ _ v s kap => ∃ b, v = .bool b ∧ (∃ H, g.Rest H s) ∧ (b ≠ g.w → g.res = b) ∧ (b = g.w → ∀ s', s'.heap = s.heap → s'.os = s.os → AllBare s'.gens → g.gz ≤ s'.gens.size → kap (.send .none) s')
theorem qL_cons {w : Bool} {r : Env} {tg : Tg} {ts : Dm.T} {el : E} {x : D} {xs : List D} {b : Bool} (h : qL w r tg ts el (x :: xs) = some b) :
    ∃ r1 k, asg tg x r = some r1 ∧ ts r1 = some k ∧ if k = true then ∃ c, el r1 = some (.bool c) ∧ (c = w → qL w r tg ts el xs = some b) ∧ (c ≠ w → b = c) else qL w r tg ts el xs = some b := by
  simp only [qL, Option.bind_eq_bind, Option.bind_eq_some_iff] at h
  obtain ⟨r1, h1, k, h2, h3⟩ := h
  refine ⟨r1, k, h1, h2, ?_⟩
  cases k with
  | false => simpa using h3
  | true =>
    simp only [if_true, Option.bind_eq_some_iff] at h3 ⊢
    obtain ⟨y, h4, h5⟩ := h3
    split at h5
    · rename_i c
      refine ⟨c, h4, fun e => by rw [if_pos e] at h5; exact h5, fun e => by rw [if_neg e] at h5; exact (Option.some.inj h5).symm⟩
    · cases h5
/-- Seg's step, what is run being the frame's -/
theorem seg_in {α : Type} {M : Model} {A : Around} {R : GenEnd} {Y : Protocol} {n : Nat} {s0 : Shared} {elt : Expr} {gs : List Comprehension} {scope : Scope} {pos : Pos} {it acc : Value} {env : PySem.Env} {s : Shared} {β : Type} {m : Sem α} {K : α → Sem β} {K' : β → Sem PySem.Fin} {H' : Value → Sem PySem.Fin} {gd : Bool → Bool} {lv : List Value → List Value} {gz : Nat}
    (hz : gz ≤ s.gens.size) (h : wpAny M (A.deeper env) m (fun a s' => gz ≤ s'.gens.size → Seg M A R Y n s0 (.compLoop (.GeneratorExp elt gs scope pos) 0 it acc env) ((K a).wrap K' H' gd lv) [] s') (fun _ _ => False) s) :
    Seg M A R Y n s0 (.compLoop (.GeneratorExp elt gs scope pos) 0 it acc env) ((m >>= K).wrap K' H' gd lv) [] s := by
  refine seg_bind_wrap ?_
  rw [over_gen]
  exact GenW.wpAny_gsz hz (wpAny_mono h (fun _ _ z => z) fun _ _ z => z.elim)
section
variable {g : Gn} {tg elt iter : Expr} {ifs : List Expr} {pos : Pos} {kp : Kp} {fx : Fxs} {q : Bool} {J : It} {tn : Nat → Heap → Prop} {it : Addr}
theorem seg_turns (hc : g.X.calm = true) (hco : g.scope.isCoroutine = false) (hga : ∀ b ∈ g.fp, b ≠ g.a) (Tn : Turn g.X.prog g.X.w g.X.K tg J g.fp it tn) (eo : EnvOk g.X.K g.T g.S g.H g.σ g.r) (hk : ∀ x ∈ kp, RpQ g.X.K q g.S g.H x.1 x.2) (hfx : Fx fx g.S g.H) (hit : ItOk g.X.K g.T kp fx g.ds J)
    (hg : DG g.gx g.T tg g.tg) (ht : DTs g.gx g.T ifs g.ts) (he : DE g.gx g.T elt g.el) (hw : ∀ j ∈ g.tg.slots, j ∈ g.own) :
    ∀ (k i n : Nat) (s0 s : Shared) (H : Hp), k = g.ds.length - i → k ≤ n → g.Rest H s → tn i s.heap → (∀ b ∈ g.fp, H b = none) → qL g.w (wipeE g.r g.own) g.tg g.ts g.el (g.ds.drop i) = some g.res →
      Seg (model g.X.prog g.X.w) g.A g.R g.Y n s0 (.compLoop (.GeneratorExp elt [⟨tg, iter, ifs, 0⟩] g.scope pos) 0 (.ref it) .none g.gx.env) ((model g.X.prog g.X.w).den (.compLoop (.GeneratorExp elt [⟨tg, iter, ifs, 0⟩] g.scope pos) 0 (.ref it) .none g.gx.env)) [] s := by
  have stat : ∀ {σ' : L2.St} {H' : Hp} {s' : Shared}, Inv g.gx [] σ' H' s' → (∀ b ∈ g.fp, H' b = none) → ∀ b ∈ g.fp, FpOk g.gx [] H' b := fun {σ' H' s'} I' hn b hb =>
    ⟨hn b hb, (I'.ok.exf b hb).1, I'.ok.exfs b hb, .inl hb, fun x c e => (I'.ok.exf b hb).2 x c e, fun p hp' => by
      have z : p ∈ [(g.a, g.go)] ++ [] := hp'
      simp at z
      subst z
      exact fun z => hga b hb z.symm⟩
  intro k
  induction k with
  | zero =>
    intro i n s0 s H hki hkn ⟨I, nx, hz⟩ st hf hq
    have hi : g.ds.length ≤ i := by omega
    have eo' := eo.nxt nx
    obtain ⟨stp, _⟩ := hit g.S H eo'.tabs eo'.live (fun x hx => (RpQ.nxt nx (hk x hx)).look) (hfx.nxt nx)
    rw [List.drop_eq_nil_of_le hi] at hq
    simp only [qL, Option.some.injEq] at hq
    show Seg _ _ _ _ n s0 _ ((compTurn (.GeneratorExp elt [⟨tg, iter, ifs, 0⟩] g.scope pos) 0 (.ref it) .none g.gx.env).onRaise (leaving g.gx.env)) [] s
    rw [compTurn_gen, Sem.onRaise_eq_wrap]
    refine seg_in hz (wpAny_standAt fun _ => ?_)
    refine seg_in hz (thnF (Tn.done g.gx rfl rfl rfl hc i [] s _ H (fun _ _ => False) I (stat I hf) st (stp i hi)) fun r s1 ⟨hr, I1⟩ hz1 => ?_)
    subst hr
    exact seg_end (.ok .next) ⟨rfl, hq.symm, H, I1, nx, hz1⟩
  | succ k ih =>
    intro i n s0 s H hki hkn ⟨I, nx, hz⟩ st hf hq
    have hi : i < g.ds.length := by omega
    have eo' := eo.nxt nx
    have ew := eo'.wipe g.own
    obtain ⟨_, go⟩ := hit g.S H eo'.tabs eo'.live (fun x hx => (RpQ.nxt nx (hk x hx)).look) (hfx.nxt nx)
    obtain ⟨g1, g2⟩ := go i _ (List.getElem?_eq_getElem hi)
    rw [List.drop_eq_getElem_cons hi] at hq
    obtain ⟨r1, b, f1, f2, f3⟩ := qL_cons hq
    show Seg _ _ _ _ n s0 _ ((compTurn (.GeneratorExp elt [⟨tg, iter, ifs, 0⟩] g.scope pos) 0 (.ref it) .none g.gx.env).onRaise (leaving g.gx.env)) [] s
    rw [compTurn_gen, Sem.onRaise_eq_wrap]
    refine seg_in hz (wpAny_standAt fun _ => ?_)
    refine seg_in hz (thnF (Tn.item g.gx rfl rfl rfl hc i [] s _ H (fun _ _ => False) I (stat I hf) st g1) fun r s1 ⟨u, hr, hh⟩ hz1 => ?_)
    subst hr
    refine seg_in hz1 (thnF hh fun _ s2 ⟨x, H2, I2, ru, y2, st2, hf2⟩ hz2 => ?_)
    obtain ⟨n2, rx⟩ := g2 x H2 y2
    have J2 := I2.pinned (stat I2 hf2) (Tn.obj _ _ st2)
    refine seg_in hz2 (thnF (hg.pg.run _ s2 _ H2 x u (fun σ' H' => H' = H2 ∧ EnvOk g.X.K g.T g.S H2 σ' r1 ∧ L2.wipe σ' g.own = L2.wipe g.σ g.own) J2 ru ⟨g.S, _, _, r1, ew.nxt n2, rx, f1, fun σ' o' u' => ⟨rfl, o', u'.wipe hw⟩⟩) fun _ s3 ⟨σ3, H3, I3, e3, o3, w3⟩ hz3 => ?_)
    subst e3
    refine seg_in hz3 (thnF (ht.pt.run _ s3 σ3 H3 (fun b' H' => b' = b ∧ Nxt g.T H3 H') I3 ⟨g.S, r1, b, o3, f2, fun H' n' => ⟨rfl, n'⟩⟩) fun b' s4 ⟨H4, I4, e4, n4⟩ hz4 => ?_)
    subst e4
    have fin : ∀ {s' : Shared} {H' : Hp}, Inv g.gx ([] ++ pinsAt g.fp s2.heap) σ3 H' s' → Inv g.gx [] (L2.wipe g.σ g.own) H' s' ∧ tn (i + 1) s'.heap ∧ ∀ b ∈ g.fp, H' b = none := fun {s' H'} I' => by
      have pin' : ∀ b ∈ g.fp, ∀ o, s2.heap.get? b = some o → s'.heap.get? b = some o ∧ H' b = none := fun b hb o e =>
        have z := I'.pin (b, o) (List.mem_append_right _ (List.mem_append_right _ (mem_pinsAt hb e)))
        ⟨z.1, z.2.1⟩
      refine ⟨(I'.unpinned (pins := [])).weak (by rw [← w3, wipe_length]) fun j v e => ?_, Tn.keep _ _ _ st2 fun b hb o e => (pin' b hb o e).1, fun b hb => ?_⟩
      · rw [← w3] at e
        exact (wipe_some e).1
      · obtain ⟨o, e, _⟩ := Tn.obj _ _ st2 b hb
        exact (pin' b hb o e).2
    cases b' with
    | false =>
      rw [if_neg Bool.false_ne_true] at f3
      obtain ⟨I5, st5, hf5⟩ := fin I4
      exact seg_again rfl (ih (i + 1) n s0 s4 H4 (by omega) (by omega) ⟨I5, nx.trans (n2.trans n4), hz4⟩ st5 hf5 f3)
    | true =>
      rw [if_pos rfl] at f3
      obtain ⟨c, f4, f5, f6⟩ := f3
      obtain ⟨n, rfl⟩ : ∃ m, n = m + 1 := ⟨n - 1, by omega⟩
      simp only [if_true]
      have hy : ∀ v, yieldOut g.gx.env v = yieldValue v := fun v => by
        show (if g.scope.isCoroutine = true then _ else _) = _
        rw [hco, if_neg Bool.false_ne_true]
      simp only [hy]
      rw [Sem.bind_eq_wrap', Sem.bind_eq_wrap', Sem.wrap_wrap, Sem.wrap_wrap]
      refine seg_wrap ?_
      rw [over_gen]
      refine GenW.wpAny_gsz hz4 (wpAny_mono (he.pe.run _ s4 σ3 H4 (fun v H' => v = .bl c ∧ Nxt g.T H4 H') I4 ⟨g.S, r1, _, o3.nxt n4, f4, fun v H' n' rv => ⟨by cases rv; rfl, n'⟩⟩) (fun y s5 ⟨yv, H5, I5, ry, e5, n5⟩ hz5 => ?_) fun _ _ z => z.elim)
      subst e5
      obtain ⟨I6, st6, hf6⟩ := fin I5
      have nn : Nxt g.T g.H H5 := nx.trans (n2.trans (n4.trans n5))
      refine seg_at (seg_yield rfl rfl rfl ⟨c, ry, ⟨H5, I6, nn, hz5⟩, f6, fun ec s6 eh eos hb hz6 => ?_⟩)
      exact seg_again rfl (ih (i + 1) n s6 s6 H5 (by omega) (by omega) ⟨inv_same I6 eh eos hb, nn, hz6⟩ (by rw [eh]; exact st6) hf6 (f5 ec))
theorem seg_begin (hc : g.X.calm = true) (hco : g.scope.isCoroutine = false) (hga : ∀ b ∈ g.fp, b ≠ g.a) (Tn : Turn g.X.prog g.X.w g.X.K tg J g.fp it tn) (eo : EnvOk g.X.K g.T g.S g.H g.σ g.r) (hk : ∀ x ∈ kp, RpQ g.X.K q g.S g.H x.1 x.2) (hfx : Fx fx g.S g.H) (hit : ItOk g.X.K g.T kp fx g.ds J)
    (hg : DG g.gx g.T tg g.tg) (ht : DTs g.gx g.T ifs g.ts) (he : DE g.gx g.T elt g.el) (hw : ∀ j ∈ g.tg.slots, j ∈ g.own) (s0 s : Shared) (H : Hp) (hr : g.Rest H s) (st : tn 0 s.heap) (hf : ∀ b ∈ g.fp, H b = none) (hq : qL g.w (wipeE g.r g.own) g.tg g.ts g.el g.ds = some g.res) :
    Seg (model g.X.prog g.X.w) g.A g.R g.Y g.ds.length s0 (.compStart (.GeneratorExp elt [⟨tg, iter, ifs, 0⟩] g.scope pos) 0 (.ref it) .none g.gx.env) ((model g.X.prog g.X.w).den (.compStart (.GeneratorExp elt [⟨tg, iter, ifs, 0⟩] g.scope pos) 0 (.ref it) .none g.gx.env)) [] s := by
  have loop := seg_turns (iter := iter) (pos := pos) hc hco hga Tn eo hk hfx hit hg ht he hw g.ds.length 0 g.ds.length s0 s H rfl (Nat.le_refl _) hr st hf (by simpa using hq)
  show Seg _ _ _ _ _ s0 _ ((compStart (.GeneratorExp elt [⟨tg, iter, ifs, 0⟩] g.scope pos) 0 (.ref it) .none g.gx.env).onRaise (leaving g.gx.env)) [] s
  unfold compStart
  rw [Sem.onRaise_eq_wrap]
  show Seg _ _ _ _ _ s0 _ ((ask >>= _).wrap _ _ _ _) [] s
  refine seg_bind_wrap (wpAny_askSetting ?_)
  split
  · exact seg_again rfl loop
  · first
      | exact seg_bind_wrap (wpAny_rule (seg_bind_wrap (wpAny_standAt (seg_bind_wrap (Tn.self _ 0 s _ _ st (seg_again rfl loop))))))
      | (refine seg_bind_wrap (wpAny_rule ?_); show Seg _ _ _ _ _ s0 _ ((standAt iter.pos >>= _).wrap _ _ _ _) [] s; exact seg_bind_wrap (wpAny_standAt (seg_bind_wrap (Tn.self _ 0 s _ _ st (seg_again rfl loop)))))
end
end Dm
end

section
set_option Elab.async false
set_option linter.all false
set_option autoImplicit true
set_option maxRecDepth 100000
set_option maxHeartbeats 2000000
/-! DGen3: all, any ask a generator expression. -/
namespace Dm
open PySem PySem.Spec PyProof.Rows L2
section
variable {g : Gn} {gi : Nat}
/-- the generator sleeps, at most n times it hands out something -/
def Gn.Sleeps (g : Gn) (gi n : Nat) (s : Shared) : Prop :=
  (∃ H, g.Rest H s) ∧ ∃ st, s.gens[gi]? = some st ∧ ∀ s', s'.heap = s.heap → s'.os = s.os → AllBare s'.gens → g.gz ≤ s'.gens.size → st.Goes (model g.X.prog g.X.w) g.A g.R g.Y n (.send .none) s'
/-- back at the maker's -/
def Gn.Done (g : Gn) (pins : List (Addr × Obj)) (s : Shared) : Prop := ∃ H, Inv g.X pins g.σ H s ∧ Nxt g.T g.H H
theorem Gn.done {pins : List (Addr × Obj)} {H : Hp} {s s' : Shared} (I : Inv g.X pins g.σ g.H g.s) (hf : ∀ b ∈ g.fp, FpOk g.X pins g.H b) (h : g.Rest H s) (hk : ∀ b o, s.heap.get? b = some o → s'.heap.get? b = some o) (ho : s'.os = s.os) (hb : AllBare s'.gens) : g.Done pins s' := by
  obtain ⟨J, nx, _⟩ := h
  refine ⟨H, I.call' (ch := g.fp) (ho.trans J.os) (Un.trans J.base (Un.kept hk)) (J.hok.kept hk) hb fun b hb => ?_, nx⟩
  obtain ⟨f0, f1, f2, f3, f4, f5⟩ := hf b hb
  exact ⟨f3, f1, f4, f5⟩
theorem gen_next {pins : List (Addr × Obj)} {n : Nat} {s : Shared} {E : Value → Shared → Prop} (hh : g.X.A.handled = none) (hd : g.X.A.depth < recursionLimit) (I : Inv g.X pins g.σ g.H g.s) (hf : ∀ b ∈ g.fp, FpOk g.X pins g.H b) (hgi : gi < g.gz)
    (hgo : ∃ nm qn, g.go.cls = .type "generator" ∧ g.go.data = .fields #[.int gi 0, nm, qn] ∧ g.go.slots = #[]) (h : g.Sleeps gi n s) :
    wpAny (model g.X.prog g.X.w) g.X.A.in1 (pyNext (.ref g.a)) (fun r s' => match r with
      | none => g.res = g.w ∧ g.Done pins s'
      | some v => ∃ b, v = .bool b ∧ (b ≠ g.w → g.res = b ∧ g.Done pins s') ∧ (b = g.w → ∃ m, m < n ∧ g.Sleeps gi m s')) E s := by
  obtain ⟨⟨H, J, nx, hz⟩, st, hst, go⟩ := h
  obtain ⟨nm, qn, q1, q2, q3⟩ := hgo
  have isg : s.heap.IsGen g.a gi := ⟨g.go, nm, qn, (J.pin (g.a, g.go) (List.mem_append_left _ List.mem_cons_self)).1, q1, q2, q3⟩
  have b0 : AllBare (s.setGen gi .running).gens := allBare_setGen J.bare rfl
  refine wpAny_pyNext_genexpQ (P := fun _ _ s1 => g.E s1) (Y := g.Y) (n := n) hh J.nolimit hd isg hst (go _ rfl rfl b0 (by rw [GenW.setGen_size]; exact hz)) (fun v s1 st' hb hv => ?_) fun s1 ⟨er, H1, r1⟩ h' hk => ?_
  · obtain ⟨b, ev, ⟨H1, J1, nx1, hz1⟩, hne, hkap⟩ := hv
    have gsz : gi < s1.gens.size := Nat.lt_of_lt_of_le hgi hz1
    refine ⟨b, ev, fun e => ⟨hne e, Gn.done I hf ⟨J1, nx1, hz1⟩ (fun _ _ q => q) rfl (allBare_setGen J1.bare hb)⟩, fun e => ?_⟩
    have kap := hkap e
    cases n with
    | zero => exact (kap s1 rfl rfl J1.bare hz1).elim
    | succ m => exact ⟨m, Nat.lt_succ_self _, ⟨H1, inv_same J1 rfl rfl (allBare_setGen J1.bare hb), nx1, by rw [GenW.setGen_size]; exact hz1⟩, st', setGen_at gsz, fun s' e1 e2 e3 e4 => kap s' e1 e2 e3 e4⟩
  · exact ⟨er, Gn.done I hf r1 (fun b o e => hk b o e) rfl (allBare_setGen r1.1.bare rfl)⟩
theorem all_loop {pins : List (Addr × Obj)} {R : Result → Shared → Prop} (hw : g.w = true) (hh : g.X.A.handled = none) (hd : g.X.A.depth < recursionLimit) (I : Inv g.X pins g.σ g.H g.s) (hf : ∀ b ∈ g.fp, FpOk g.X pins g.H b) (hgi : gi < g.gz)
    (hgo : ∃ nm qn, g.go.cls = .type "generator" ∧ g.go.data = .fields #[.int gi 0, nm, qn] ∧ g.go.slots = #[]) (hR : ∀ s', g.Done pins s' → R (.ok (.ret (.bool g.res))) s') :
    ∀ (n : Nat) (s : Shared), g.Sleeps gi n s → codeAny (model g.X.prog g.X.w) g.X.A (.builtin "all.loop" ⟨[.ref g.a], []⟩) R s := by
  intro n
  induction n using Nat.strongRecOn with
  | _ n ih =>
    intro s h
    refine codeAny_builtin F.entry_all_loop ?_
    rw [Around.under_plainId F.plain_all_loop _]
    show wpAny _ g.X.A.in1 (pyNext (.ref g.a) >>= _) _ _ s
    refine wpAny_bind (thn (gen_next hh hd I hf hgi hgo h) fun r s1 h1 => ?_)
    cases r with
    | none =>
      obtain ⟨e, d⟩ := h1
      have z := hR s1 d
      rw [e, hw] at z
      exact wpAny_bind (wpAny_rule (wpAny_pure z))
    | some v =>
      obtain ⟨b, rfl, h2, h3⟩ := h1
      refine wpAny_bind (wpAny_holding (wpAny_truthy_bool ?_))
      refine wpAny_bind (wpAny_letGo ?_)
      cases b with
      | true =>
        simp only [if_true]
        obtain ⟨m, hm, hs⟩ := h3 hw.symm
        exact wpAny_pure ⟨plainId_quiet F.plain_all_loop _, ih m hm s1 hs⟩
      | false =>
        simp only [Bool.false_eq_true, if_false]
        obtain ⟨e, d⟩ := h2 (by rw [hw]; exact Bool.false_ne_true)
        have z := hR s1 d
        rw [e] at z
        exact wpAny_bind (wpAny_rule (wpAny_pure z))
theorem any_loop {pins : List (Addr × Obj)} {R : Result → Shared → Prop} (hw : g.w = false) (hh : g.X.A.handled = none) (hd : g.X.A.depth < recursionLimit) (I : Inv g.X pins g.σ g.H g.s) (hf : ∀ b ∈ g.fp, FpOk g.X pins g.H b) (hgi : gi < g.gz)
    (hgo : ∃ nm qn, g.go.cls = .type "generator" ∧ g.go.data = .fields #[.int gi 0, nm, qn] ∧ g.go.slots = #[]) (hR : ∀ s', g.Done pins s' → R (.ok (.ret (.bool g.res))) s') :
    ∀ (n : Nat) (s : Shared), g.Sleeps gi n s → codeAny (model g.X.prog g.X.w) g.X.A (.builtin "any.loop" ⟨[.ref g.a], []⟩) R s := by
  intro n
  induction n using Nat.strongRecOn with
  | _ n ih =>
    intro s h
    refine codeAny_builtin F.entry_any_loop ?_
    rw [Around.under_plainId F.plain_any_loop _]
    show wpAny _ g.X.A.in1 (pyNext (.ref g.a) >>= _) _ _ s
    refine wpAny_bind (thn (gen_next hh hd I hf hgi hgo h) fun r s1 h1 => ?_)
    cases r with
    | none =>
      obtain ⟨e, d⟩ := h1
      have z := hR s1 d
      rw [e, hw] at z
      exact wpAny_bind (wpAny_rule (wpAny_pure z))
    | some v =>
      obtain ⟨b, rfl, h2, h3⟩ := h1
      refine wpAny_bind (wpAny_holding (wpAny_truthy_bool ?_))
      refine wpAny_bind (wpAny_letGo ?_)
      cases b with
      | false =>
        simp only [Bool.false_eq_true, if_false]
        obtain ⟨m, hm, hs⟩ := h3 hw.symm
        exact wpAny_pure ⟨plainId_quiet F.plain_any_loop _, ih m hm s1 hs⟩
      | true =>
        simp only [if_true]
        obtain ⟨e, d⟩ := h2 (by rw [hw]; decide)
        have z := hR s1 d
        rw [e] at z
        exact wpAny_bind (wpAny_rule (wpAny_pure z))
end
end Dm
end

section
set_option Elab.async false
set_option linter.all false
set_option autoImplicit true
set_option maxRecDepth 100000
set_option maxHeartbeats 2000000
/-! DGen4: a generator expression is made; all, any of it. -/
namespace Dm
open PySem PySem.Spec PyProof.Rows L2
/-- its scope: names of its own, what is walked at «.0», names captured -/
structure GenSc (scope : Scope) : Prop where
  co : scope.isCoroutine = false
  cell : ∀ y ∈ scope.names, y.2 ≠ .cell
  dot : scope.names.lookup (".0" : Str) = some NameKind.local
def genScB (scope : Scope) : Bool := !scope.isCoroutine && (scope.names.all fun y => !decide (y.2 = .cell)) && decide (scope.names.lookup (".0" : Str) = some NameKind.local)
theorem genSc_by {scope : Scope} (h : genScB scope = true) : GenSc scope := by
  unfold genScB at h
  simp only [Bool.and_eq_true, Bool.not_eq_true', decide_eq_true_eq, List.all_eq_true, decide_eq_false_iff_not] at h
  exact ⟨h.1.1, h.1.2, h.2⟩
/-- the table of P is longer -/
theorem nxt_tab {T : List Addr} {H : Hp} {P : Addr} {ps ps' : Array Value} (t : Dm.Tabs T H) (hP : H P = some (.tbl ps)) (ht : TriplesOk ps'.toList) : Nxt T H (upd H P (.tbl ps')) := by
  refine ⟨fun b o e nt => ?_, fun Q hQ => ?_, fun b qs e => ?_⟩
  · rw [upd_ne]; exact e
    rintro rfl
    rw [hP] at e; cases e; exact nt _ rfl
  · by_cases h : Q = P
    · subst h; exact ⟨ps', upd_same, ht⟩
    · obtain ⟨qs, e1, e2⟩ := t Q hQ
      exact ⟨qs, (upd_ne h).trans e1, e2⟩
  · by_cases h : b = P
    · subst h; exact ⟨ps', upd_same⟩
    · exact ⟨qs, (upd_ne h).trans e⟩
section
variable {X : Cx} {T : List Addr} {pins : List (Addr × Obj)} {σ : L2.St} {H : Hp} {s : Shared} {elt tg iter : Expr} {ifs : List Expr} {scope : Scope} {own : List (Str × Nat)} {q : Bool} {it : I} {t : Tg} {ts : Dm.T} {el : E} {gpos pos p : Pos} {c P : Addr} {k : Nat}
theorem gen_make {w : Bool} {S : List Addr} {r : Env} {ds : List D} {res : Bool} {Q' : Value → Shared → Prop} (hr : Room k X.A) (hPT : P ∈ T) (TB : LamX.TabB X.base X.mg c P) (hcode : X.env.code = .ref c) (Sc : GenSc scope) (hc : X.calm = true) (hN : X.N.Nodup) (hi : DI X T q tg iter it) (ok : BlkOk X.N X.env.scope scope own)
    (hg : ∀ s H cl C code fp a go, DG (gcx X s H scope cl C code fp a go) T tg t) (ht : ∀ s H cl C code fp a go, DTs (gcx X s H scope cl C code fp a go) T ifs ts) (he : ∀ s H cl C code fp a go, DE (gcx X s H scope cl C code fp a go) T elt el)
    (hw : ∀ j ∈ t.slots, j ∈ own.map (·.2)) (hs : ∀ v, genFold iter X.env v = pure v) (I : Inv X pins σ H s) (eo : EnvOk X.K T S H σ r) (ei : it r = some ds) (eq : qL w (wipeE r (own.map (·.2))) t ts el ds = some res)
    (hQ : ∀ (g : Gn) (gi : Nat) (s' : Shared), g.X = X → g.σ = σ → g.T = T → g.w = w → g.res = res → Inv g.X pins g.σ g.H g.s → (∀ b ∈ g.fp, FpOk g.X pins g.H b) → gi < g.gz → (∃ nm qn, g.go.cls = .type "generator" ∧ g.go.data = .fields #[.int gi 0, nm, qn] ∧ g.go.slots = #[]) →
      Nxt T H g.H → g.Sleeps gi g.ds.length s' → s'.heap.IsGen g.a gi → Q' (.ref g.a) s') :
    wpAny (model X.prog X.w) X.A (eval (.GeneratorExp elt [⟨tg, iter, ifs, 0⟩] scope gpos) X.env) Q' X.xe s := by
  have hfree : ∀ y ∈ scope.names, y.2 = .free → ∃ c, X.env.cells.lookup y.1 = some c := fun y hy e => by
    rcases ok.free y hy e with k | k
    · exact I.ok.has _ (.inl k)
    · exact I.ok.has _ (.inr k)
  refine wpAny_GeneratorExp_make Sc.co (closure_ok hfree) Sc.cell Sc.dot ok.kind (by have := hr.dp; omega) ?_ hs
  refine thn (hi.pi.run pins s σ H (fun J H1 => ∃ kp fx, Nxt T H H1 ∧ (∀ x ∈ kp, RpQ X.K q S H1 x.1 x.2) ∧ Fx fx S H1 ∧ ItOk X.K T kp fx ds J) I ⟨S, r, ds, eo, ei, fun J H' kp fx n1 hk hfx hit => ⟨kp, fx, n1, hk, hfx, hit⟩⟩) fun xv s1 hx => thn hx fun itv s2 ⟨ia, fp, tn, J, H2, e2, I2, Tn, st2, hf2, kp, fx, n2, hk, hfx, hit⟩ => ?_
  subst e2
  obtain ⟨ps, hP, htr⟩ := n2.tabs P hPT
  have hPs : s2.heap.get? P = some { cls := .none, data := .fields ps } := I2.hok P _ hP
  have cd : PySem.W.CodeHd s2.heap c P := TB.code.keeps fun b u e => I2.bk b u e
  have nfP : ∀ b, b ∈ fp → b ≠ P := fun b hb z => by
    have := (hf2 b hb).1
    rw [z, hP] at this; cases this
  have cont : ∀ (code : Value) (h3 : Heap) (tk : Nat) (more : Array Value), Heap.ExtBut P s2.heap h3 → s2.heap.objs.size ≤ h3.objs.size → h3.get? P = some { cls := .none, data := .fields (ps ++ more) } → TriplesOk (ps ++ more).toList →
      wpAny (model X.prog X.w) X.A (builtinsFor X.env.globals X.env.builtins) (fun bi s₄ => ∀ h', h'.Ns s₄.heap.objs.size (fun y => if y = ".0" then some (Value.ref ia) else none) → Heap.SameBut s₄.heap.objs.size (s₄.heap.push { cls := .type "frame", data := .dict #[] }) h' →
          Q' (.ref h'.objs.size) { s₄ with
            gens := s₄.gens.push (.fresh (.compStart (.GeneratorExp elt [⟨tg, iter, ifs, 0⟩] scope gpos) 0 (.ref ia) .none (genEnv scope (cloFrom X.env.cells scope.names []) s₄.heap.objs.size code bi X.env))), toks := s₄.toks + 1 + 1 + 1,
            heap := h'.push { cls := .type "generator", data := .fields #[.int s₄.gens.size 0, .str "<genexpr>" (s₄.toks + 1), .str (X.env.qual ++ "<genexpr>") (s₄.toks + 1 + 1)] } }) X.xe { s2 with heap := h3, toks := tk } := by
    intro code h3 tk more hx hsz hP3 ht3
    obtain ⟨bm, ob, b1, b2, b3, b4, b5, b6, b7, b8⟩ := TB.bm
    have keep3 : ∀ b u, b ≠ P → s2.heap.get? b = some u → h3.get? b = some u := fun b u hb e => hx b u hb e
    refine wpAny_builtinsFor (m := X.mg) (by rw [I2.ok.glob]; exact ((I2.mod.glob.keeps I2.bk)).extBut hx TB.gP) b1 b2 (keep3 _ _ b4 (I2.bk _ _ b5)) b6 b7 b8 ?_
    intro h' hns hsb
    have I3 := GxR.inv_tab (more := more) (h' := h3) (g' := s2.gens) (d' := s2.drawn) (t' := tk) I2 hP (fun b u hb e => keep3 b u hb e) hP3 I2.bare
    have n3 : Nxt T H2 (upd H2 P (.tbl (ps ++ more))) := nxt_tab n2.tabs hP ht3
    have hf3 : ∀ b ∈ fp, FpOk X pins (upd H2 P (.tbl (ps ++ more))) b := fun b hb => ⟨(upd_ne (nfP b hb)).trans (hf2 b hb).1, (hf2 b hb).2⟩
    have fz : ∀ b ∈ fp, b < h3.objs.size := fun b hb => by
      obtain ⟨o, e, _⟩ := Tn.obj _ _ st2 b hb
      exact Nat.lt_of_lt_of_le (Heap.lt_size e) hsz
    have hz' : h'.objs.size = h3.objs.size + 1 := by rw [hsb.1, Heap.size_push]
    have k1 : ∀ b o, h3.get? b = some o → h'.get? b = some o := fun b o e => hsb.extBut b o (Nat.ne_of_lt (Heap.lt_size e)) (Heap.get?_push_of_some _ e)
    have J5 := gen_start (own := own) (code := code) (tk := tk + 1 + 1 + 1) (gs := .fresh (.compStart (.GeneratorExp elt [⟨tg, iter, ifs, 0⟩] scope gpos) 0 (.ref ia) .none (genEnv scope (cloFrom X.env.cells scope.names []) h3.objs.size code builtinsNs X.env)))
      (go := { cls := .type "generator", data := .fields #[.int s2.gens.size 0, .str "<genexpr>" (tk + 1), .str (X.env.qual ++ "<genexpr>") (tk + 1 + 1)] }) I3 ok hN Sc.cell (fun b hb => ⟨hf3 b hb, fz b hb⟩) rfl (fun v z => by cases z) hns k1 hz' rfl (Heap.get?_push_size _ rfl) (fun b o e => Heap.get?_push_of_some _ e)
    have eo3 := (eo.nxt n2).nxt n3
    let g : Gn := ⟨X, T, S, r, σ, { s2 with heap := h3, toks := tk }, upd H2 P (.tbl (ps ++ more)), scope, cloFrom X.env.cells scope.names [], code, fp, h'.objs.size, { cls := .type "generator", data := .fields #[.int s2.gens.size 0, .str "<genexpr>" (tk + 1), .str (X.env.qual ++ "<genexpr>") (tk + 1 + 1)] }, s2.gens.size + 1, own.map (·.2), t, ts, el, w, res, ds⟩
    have st5 : tn 0 (h'.push g.go) := Tn.keep _ _ _ st2 fun b hb o e => Heap.get?_push_of_some _ (k1 b o (keep3 b o (nfP b hb) e))
    refine hQ g s2.gens.size _ rfl rfl rfl rfl rfl I3 hf3 (Nat.lt_succ_self _) ⟨_, _, rfl, rfl, rfl⟩ (n2.trans n3) ⟨⟨_, J5, Nxt.refl n3.tabs, by show s2.gens.size + 1 ≤ (s2.gens.push _).size; rw [Array.size_push]; exact Nat.le_refl _⟩, _, Array.getElem?_push_size .., fun s' e1 e2 e3 e4 => ⟨rfl, ?_⟩⟩ ⟨_, _, _, Heap.get?_push_size _ rfl, rfl, rfl, rfl⟩
    refine seg_begin (g := g) (kp := kp) (fx := fx) (q := q) (J := J) (tn := tn) hc Sc.co (fun b hb z => ?_) Tn eo3 (fun x hx => RpQ.nxt n3 (hk x hx)) (hfx.nxt n3) hit (hg ..) (ht ..) (he ..) hw s' s' _ ⟨inv_same J5 e1 e2 e3, Nxt.refl n3.tabs, e4⟩ (by rw [e1]; exact st5) (fun b hb => (hf3 b hb).1) eq
    have := fz b hb
    rw [z] at this
    exact absurd this (by show ¬ h'.objs.size < h3.objs.size; omega)
  refine ⟨I2.nolimit, ?_⟩
  cases hf : codeAmong gpos ps.toList with
  | none =>
    refine wpAny_genexprCodeX hcode (cd.code hPs htr) (cd.tab hPs) hf fun c' h' tk hx hge hlt hco' _ htab' _ => ?_
    obtain ⟨o1, vs, f1, tf, fl, tg', inF, tx, tt, op, _, _, _, _, _, _, _, _, _, htr', _⟩ := hco'
    exact cont _ h' tk _ hx (Nat.le_trans hge (Nat.le_of_lt hlt)) htab'.2 htr'
  | some cv =>
    refine wpAny_genexprCode_hit hcode (cd.code hPs htr) hf ?_
    exact cont cv s2.heap s2.toks #[] (Heap.ExtBut.refl _ _) (Nat.le_refl _) (by rw [Array.append_empty]; exact hPs) (by rw [Array.append_empty]; exact htr)
theorem e_all (hr : Room k X.A) (hm : X.mg "all" = none) (hPT : P ∈ T) (TB : LamX.TabB X.base X.mg c P) (hcode : X.env.code = .ref c) (Sc : GenSc scope) (hc : X.calm = true) (hN : X.N.Nodup) (hi : DI X T q tg iter it) (ok : BlkOk X.N X.env.scope scope own)
    (hg : ∀ s H cl C code fp a go, DG (gcx X s H scope cl C code fp a go) T tg t) (ht : ∀ s H cl C code fp a go, DTs (gcx X s H scope cl C code fp a go) T ifs ts) (he : ∀ s H cl C code fp a go, DE (gcx X s H scope cl C code fp a go) T elt el)
    (hw : ∀ j ∈ t.slots, j ∈ own.map (·.2) := by decide) (hs : ∀ v, genFold iter X.env v = pure v := by intro _; rfl) (hgl : Gl X "all" := by rfl)
    (hst : starEach [.GeneratorExp elt [⟨tg, iter, ifs, 0⟩] scope gpos] X.env = (false, eval (.GeneratorExp elt [⟨tg, iter, ifs, 0⟩] scope gpos) X.env) :: starEach [] X.env := by rfl) :
    DE X T (.Call (.Name "all" p) [.GeneratorExp elt [⟨tg, iter, ifs, 0⟩] scope gpos] [] pos) (allE (own.map (·.2)) it t ts el) := by
  refine ⟨⟨fun pins s σ H Q I ⟨S, r, d, eo, ef, k⟩ => ?_⟩⟩
  simp only [allE, Option.bind_eq_bind, Option.bind_eq_some_iff] at ef
  obtain ⟨ds, e1, res, e2, e3⟩ := ef
  cases e3
  refine wpAny_Call_Name_kw (ld_blt I hgl hm (show bootBuiltins "all" = some (.builtin "all") by decide +kernel) ?_)
  refine PyProof.Rows.callWith_builtin1 ?_ hst (by rfl)
  rw [hst]
  show wpAny _ _ (spliced ((false, eval (.GeneratorExp elt [⟨tg, iter, ifs, 0⟩] scope gpos) X.env) :: backTo pos (starEach [] X.env))) _ _ s
  refine Calls.spliced_cons (gen_make hr hPT TB hcode Sc hc hN hi ok hg ht he hw hs I eo e1 e2 fun g gi s' eX es eT ew er I4 hf hgi hgo nx hsl isg => ?_)
  refine Calls.spliced_nil ?_
  refine call_function_tree F.kind_all F.plain_all F.entry_all (F.args_all1 _) ?_
  unfold Builtin.«all»
  refine wpAny_bind (m := oneArg "all" _) (wpAny_pure ?_)
  refine wpAny_bind (wpAny_pyIter_gen isg ?_)
  refine wpAny_pure ⟨plainId_quiet F.plain_all_loop _, ?_⟩
  subst eX es eT er
  exact all_loop ew hr.hd (by have := hr.dp; omega) I4 hf hgi hgo (fun s2 ⟨H2, I2, n2⟩ => ⟨.bl _, H2, I2, rfl, k _ H2 (nx.trans n2) (.bl _)⟩) _ s' hsl
theorem e_any (hr : Room k X.A) (hm : X.mg "any" = none) (hPT : P ∈ T) (TB : LamX.TabB X.base X.mg c P) (hcode : X.env.code = .ref c) (Sc : GenSc scope) (hc : X.calm = true) (hN : X.N.Nodup) (hi : DI X T q tg iter it) (ok : BlkOk X.N X.env.scope scope own)
    (hg : ∀ s H cl C code fp a go, DG (gcx X s H scope cl C code fp a go) T tg t) (ht : ∀ s H cl C code fp a go, DTs (gcx X s H scope cl C code fp a go) T ifs ts) (he : ∀ s H cl C code fp a go, DE (gcx X s H scope cl C code fp a go) T elt el)
    (hw : ∀ j ∈ t.slots, j ∈ own.map (·.2) := by decide) (hs : ∀ v, genFold iter X.env v = pure v := by intro _; rfl) (hgl : Gl X "any" := by rfl)
    (hst : starEach [.GeneratorExp elt [⟨tg, iter, ifs, 0⟩] scope gpos] X.env = (false, eval (.GeneratorExp elt [⟨tg, iter, ifs, 0⟩] scope gpos) X.env) :: starEach [] X.env := by rfl) :
    DE X T (.Call (.Name "any" p) [.GeneratorExp elt [⟨tg, iter, ifs, 0⟩] scope gpos] [] pos) (anyE (own.map (·.2)) it t ts el) := by
  refine ⟨⟨fun pins s σ H Q I ⟨S, r, d, eo, ef, k⟩ => ?_⟩⟩
  simp only [anyE, Option.bind_eq_bind, Option.bind_eq_some_iff] at ef
  obtain ⟨ds, e1, res, e2, e3⟩ := ef
  cases e3
  refine wpAny_Call_Name_kw (ld_blt I hgl hm boot_any ?_)
  refine PyProof.Rows.callWith_builtin1 ?_ hst (by rfl)
  rw [hst]
  show wpAny _ _ (spliced ((false, eval (.GeneratorExp elt [⟨tg, iter, ifs, 0⟩] scope gpos) X.env) :: backTo pos (starEach [] X.env))) _ _ s
  refine Calls.spliced_cons (gen_make hr hPT TB hcode Sc hc hN hi ok hg ht he hw hs I eo e1 e2 fun g gi s' eX es eT ew er I4 hf hgi hgo nx hsl isg => ?_)
  refine Calls.spliced_nil ?_
  refine call_function_tree F.kind_any F.plain_any F.entry_any (F.args_any1 _) ?_
  unfold Builtin.«any»
  refine wpAny_bind (m := oneArg "any" _) (wpAny_pure ?_)
  refine wpAny_bind (wpAny_pyIter_gen isg ?_)
  refine wpAny_pure ⟨plainId_quiet F.plain_any_loop _, ?_⟩
  subst eX es eT er
  exact any_loop ew hr.hd (by have := hr.dp; omega) I4 hf hgi hgo (fun s2 ⟨H2, I2, n2⟩ => ⟨.bl _, H2, I2, rfl, k _ H2 (nx.trans n2) (.bl _)⟩) _ s' hsl
end
end Dm
end

section
set_option Elab.async false
set_option linter.all false
set_option autoImplicit true
set_option maxRecDepth 100000
set_option maxHeartbeats 1000000
/-! DIter2: zip, enumerate, reversed, range downwards; keys of a dict. -/
namespace Dm
open PySem PySem.Spec PyProof.Rows L2
theorem zipL_get : ∀ {xs ys : List D} {i : Nat} {d : D}, (zipL xs ys)[i]? = some d → ∃ x y, xs[i]? = some x ∧ ys[i]? = some y ∧ d = .tuple [x, y]
  | [], _, _, _, h => by simp [zipL] at h
  | _ :: _, [], _, _, h => by simp [zipL] at h
  | x :: xs, y :: ys, 0, d, h => by simp [zipL] at h; exact ⟨x, y, rfl, rfl, h.symm⟩
  | x :: xs, y :: ys, i + 1, d, h => by
    have h : (zipL xs ys)[i]? = some d := by simpa [zipL] using h
    obtain ⟨a, b, h1, h2, h3⟩ := zipL_get h
    exact ⟨a, b, by simpa using h1, by simpa using h2, h3⟩
theorem zipL_len : ∀ (xs ys : List D), (zipL xs ys).length = min xs.length ys.length
  | [], _ => by simp [zipL]
  | _ :: _, [] => by simp [zipL]
  | x :: xs, y :: ys => by simp [zipL, zipL_len xs ys]
theorem enumL_get : ∀ {xs : List D} {n i : Nat} {d : D}, (enumL n xs)[i]? = some d → ∃ x, xs[i]? = some x ∧ d = .tuple [.int ((n + i : Nat) : Int), x]
  | [], _, _, _, h => by simp [enumL] at h
  | x :: xs, n, 0, d, h => by simp [enumL] at h; exact ⟨x, rfl, by rw [← h]; simp⟩
  | x :: xs, n, i + 1, d, h => by
    have h : (enumL (n + 1) xs)[i]? = some d := by simpa [enumL] using h
    obtain ⟨a, h1, h2⟩ := enumL_get h
    exact ⟨a, by simpa using h1, by rw [h2]; congr 3; omega⟩
theorem enumL_len : ∀ (n : Nat) (xs : List D), (enumL n xs).length = xs.length
  | _, [] => rfl
  | n, _ :: xs => by simp [enumL, enumL_len (n + 1) xs]
section
variable {K : PySem.W.Frag} {T : List Addr}
theorem pair_new {S : List Addr} {H : Hp} {p : Addr} {x y : V} {d e : D} (t : Dm.Tabs T H) (l : Live S H) (hp : H p = none) (rx : Rp K (mns S H) x d) (ry : Rp K (mns S H) y e) : Nxt T H (upd H p (.tup [x, y])) ∧ Rp K (mns S (upd H p (.tup [x, y]))) (.ref p) (.tuple [d, e]) :=
  rp_newtup t l hp (.cons rx (.cons ry .nil))
theorem it_zipL {v u : V} {ds es : List D} {a b : Addr} (hv : v = .ref a) (hu : u = .ref b) : ItOk K T [(v, .list ds), (u, .list es)] [] (zipL ds es) (Itz K a b) := fun S H t l k _ => by
  obtain ⟨a', xs, e, hl, rr⟩ := (k (v, .list ds) (by simp)).list
  rw [hv] at e
  cases e
  obtain ⟨b', ys, e, hm, ss⟩ := (k (u, .list es) (by simp)).list
  rw [hu] at e
  cases e
  refine ⟨fun i hi => ⟨xs, ys, hl, hm, by rw [rr.length, ss.length]; rw [zipL_len] at hi; omega⟩, fun i d hd => ?_⟩
  obtain ⟨dx, dy, h1, h2, rfl⟩ := zipL_get hd
  obtain ⟨x, hx, rx⟩ := rr.get h1
  obtain ⟨y, hy, ry⟩ := ss.get h2
  refine ⟨⟨xs, ys, x, y, hl, hm, hx, hy⟩, fun z H' ⟨P, x', y', e1, e2, e3, e4, e5⟩ => ?_⟩
  have q1 := e4 xs hl
  have q2 := e5 ys hm
  rw [hx] at q1
  rw [hy] at q2
  cases q1
  cases q2
  subst e1 e3
  exact pair_new t l e2 rx ry
theorem it_zipT {v u : V} {ds es : List D} {a b : Addr} (hv : v = .ref a) (hu : u = .ref b) : ItOk K T [(v, .tuple ds), (u, .tuple es)] [] (zipL ds es) (RZ.ItzT K a b) := fun S H t l k _ => by
  obtain ⟨a', xs, e, hl, rr⟩ := (k (v, .tuple ds) (by simp)).tuple
  rw [hv] at e
  cases e
  obtain ⟨b', ys, e, hm, ss⟩ := (k (u, .tuple es) (by simp)).tuple
  rw [hu] at e
  cases e
  refine ⟨fun i hi => ⟨xs, ys, .of hl, .of hm, by rw [rr.length, ss.length]; rw [zipL_len] at hi; omega⟩, fun i d hd => ?_⟩
  obtain ⟨dx, dy, h1, h2, rfl⟩ := zipL_get hd
  obtain ⟨x, hx, rx⟩ := rr.get h1
  obtain ⟨y, hy, ry⟩ := ss.get h2
  refine ⟨⟨xs, ys, x, y, .of hl, .of hm, hx, hy⟩, fun z H' ⟨P, x', y', e1, e2, e3, e4, e5⟩ => ?_⟩
  have q1 := e4 xs (.of hl)
  have q2 := e5 ys (.of hm)
  rw [hx] at q1
  rw [hy] at q2
  cases q1
  cases q2
  subst e1 e3
  exact pair_new t l e2 rx ry
theorem it_enum {v : V} {ds : List D} {a : Addr} (hv : v = .ref a) : ItOk K T [(v, .list ds)] [] (enumL 0 ds) (Ite K a) := fun S H t l k _ => by
  obtain ⟨a', xs, e, hl, rr⟩ := (k (v, .list ds) (by simp)).list
  rw [hv] at e
  cases e
  refine ⟨fun i hi => ⟨xs, hl, by rw [rr.length]; rw [enumL_len] at hi; exact hi⟩, fun i d hd => ?_⟩
  obtain ⟨dx, h1, rfl⟩ := enumL_get hd
  obtain ⟨x, hx, rx⟩ := rr.get h1
  refine ⟨⟨xs, x, hl, hx⟩, fun z H' ⟨P, x', e1, e2, e3, e4⟩ => ?_⟩
  have q1 := e4 xs hl
  rw [hx] at q1
  cases q1
  subst e1 e3
  rw [Nat.zero_add]
  exact pair_new t l e2 (.int _) rx
theorem rev_get {α : Type} {xs : List α} {i : Nat} {d : α} (h : xs.reverse[i]? = some d) : i < xs.length ∧ xs[xs.length - 1 - i]? = some d := by
  obtain ⟨h1, h2⟩ := List.getElem?_eq_some_iff.mp h
  have h1 : i < xs.length := by simpa using h1
  rw [List.getElem_reverse] at h2
  exact ⟨h1, by rw [← h2]; exact List.getElem?_eq_getElem (by omega)⟩
theorem it_revL {v : V} {ds : List D} {a : Addr} {n : Nat} (hv : v = .ref a) (hn : n = ds.length) : ItOk K T [(v, .list ds)] [] ds.reverse (Itv K a n) := fun S H t l k _ => by
  obtain ⟨a', xs, e, hl, rr⟩ := (k (v, .list ds) (by simp)).list
  rw [hv] at e
  cases e
  refine ⟨fun i hi => by rw [List.length_reverse] at hi; rw [hn]; exact hi, fun i d hd => ?_⟩
  obtain ⟨h0, h1⟩ := rev_get hd
  obtain ⟨x, hx, rx⟩ := rr.get h1
  rw [← hn] at hx h0
  refine ⟨⟨h0, xs, x, hl, hx⟩, fun z H' ⟨e1, e2⟩ => ?_⟩
  subst e1
  have q := e2 xs hl
  rw [hx] at q
  cases q
  exact ⟨Nxt.refl t, rx⟩
theorem it_revT {v : V} {ds : List D} {a : Addr} {n : Nat} (hv : v = .ref a) (hn : n = ds.length) : ItOk K T [(v, .tuple ds)] [] ds.reverse (RT.ItvT K a n) := fun S H t l k _ => by
  obtain ⟨a', xs, e, hl, rr⟩ := (k (v, .tuple ds) (by simp)).tuple
  rw [hv] at e
  cases e
  refine ⟨fun i hi => by rw [List.length_reverse] at hi; rw [hn]; exact hi, fun i d hd => ?_⟩
  obtain ⟨h0, h1⟩ := rev_get hd
  obtain ⟨x, hx, rx⟩ := rr.get h1
  rw [← hn] at hx h0
  refine ⟨⟨h0, xs, x, .of hl, hx⟩, fun z H' ⟨e1, e2⟩ => ?_⟩
  subst e1
  have q := e2 xs (.of hl)
  rw [hx] at q
  cases q
  exact ⟨Nxt.refl t, rx⟩
end
section
variable {X : Cx} {T : List Addr} {e a b c : Expr} {es rest : List Expr} {f g h : E} {fs : List E} {pos p : Pos}
theorem two_kp {P : V × D → Prop} {a b : V × D} (ha : P a) (hb : P b) : ∀ x ∈ [a, b], P x := fun x hx => by
  simp only [List.mem_cons, List.not_mem_nil, or_false] at hx
  rcases hx with rfl | rfl
  · exact ha
  · exact hb
/-- two values that stay, or that are looked at -/
structure DQs (X : Cx) (T : List Addr) (q : Bool) (es : List Expr) (fs : List E) : Prop where
  pa : PA X es (fun σ H Q => ∃ S r ds, EnvOk X.K T S H σ r ∧ argsE fs r = some ds ∧ ∀ vs H', Nxt T H H' → vs.length = ds.length → (∀ (i : Nat) (v : V) (d : D), vs[i]? = some v → ds[i]? = some d → RpQ X.K q S H' v d) → Q vs H')
theorem RpBs.get {K : PySem.W.Frag} {S : List Addr} {H : Hp} : ∀ {vs : List V} {ds : List D}, RpBs K S H vs ds → vs.length = ds.length ∧ ∀ (i : Nat) (v : V) (d : D), vs[i]? = some v → ds[i]? = some d → RpB K S H v d
  | _, _, .nil => ⟨rfl, fun i v d h => by simp at h⟩
  | _, _, .cons a b => by
    obtain ⟨h1, h2⟩ := b.get
    refine ⟨congrArg (· + 1) h1, fun i v d e1 e2 => ?_⟩
    cases i with
    | zero => simp at e1 e2; subst e1 e2; exact a
    | succ i => exact h2 i v d (by simpa using e1) (by simpa using e2)
theorem qs_b (h : DAB X T es fs) : DQs X T true es fs := ⟨PA.imp h.pa fun σ H Q ⟨S, r, ds, o, e1, k⟩ => ⟨S, r, ds, o, e1, fun vs H' n rp => k vs H' n rp.get.1 rp.get.2⟩⟩
theorem RpAll.get2 {K : PySem.W.Frag} {H : Hp} {vs : List V} {ds : List D} (r : RpAll K H vs ds) : ∀ (i : Nat) (v : V) (d : D), vs[i]? = some v → ds[i]? = some d → Rp K H v d := fun i v d e1 e2 => by
  obtain ⟨u, h1, h2⟩ := r.get e2
  rw [e1] at h1; cases h1; exact h2
theorem qs_e (h : DA X T es fs) : DQs X T false es fs := ⟨PA.imp h.pa fun σ H Q ⟨S, r, ds, o, e1, k⟩ => ⟨S, r, ds, o, e1, fun vs H' n rp => k vs H' n rp.length rp.get2⟩⟩
theorem i_zipQ {q : Bool} {elts : List Expr} {kk : Nat} {tpos : Pos} (hm : X.mg "zip" = none) (ha : DQs X T q [a, b] [f, g]) (hg : Gl X "zip" := by rfl)
    (hs : starEach [a, b] X.env = (false, eval a X.env) :: starEach [b] X.env := by rfl) (hpl : (backTo pos (starEach [b] X.env)).any (·.1) = false := by rfl) : DI X T q (.Tuple elts kk tpos) (.Call (.Name "zip" p) [a, b] [] pos) (zipI f g) :=
  ⟨PI.imp (RZ.pi_zipA hg hm ha.pa hs hpl) fun σ H R ⟨S, r, zs, o, ef, k⟩ => by
    simp only [zipI, Option.bind_eq_bind, Option.bind_eq_some_iff] at ef
    obtain ⟨dx, e1, dy, e2, e3⟩ := ef
    refine ⟨S, r, [dx, dy], o, by simp [argsE, e1, e2], fun vs H' n hl hv => ?_⟩
    match vs, hl with
    | [v, u], _ =>
      have r1 := hv 0 v dx rfl rfl
      have r2 := hv 1 u dy rfl rfl
      unfold zipD at e3
      split at e3
      · cases e3
        obtain ⟨a1, xs, rfl, h1, _⟩ := r1.look.list
        obtain ⟨b1, ys, rfl, h2, _⟩ := r2.look.list
        exact ⟨a1, b1, xs, ys, rfl, .inl ⟨h1, h2, k _ H' _ [] n (two_kp r1 r2) Fx.nil (it_zipL rfl rfl)⟩⟩
      · cases e3
        obtain ⟨a1, xs, rfl, h1, _⟩ := r1.look.tuple
        obtain ⟨b1, ys, rfl, h2, _⟩ := r2.look.tuple
        exact ⟨a1, b1, xs, ys, rfl, .inr ⟨.of h1, .of h2, k _ H' _ [] n (two_kp r1 r2) Fx.nil (it_zipT rfl rfl)⟩⟩
      · cases e3⟩
theorem i_enumQ {q : Bool} {elts : List Expr} {kk : Nat} {tpos : Pos} (hm : X.mg "enumerate" = none) (ha : DQs X T q [a] [f]) (hg : Gl X "enumerate" := by rfl) (hs : starEach [a] X.env = [(false, eval a X.env)] := by rfl) :
    DI X T q (.Tuple elts kk tpos) (.Call (.Name "enumerate" p) [a] [] pos) (enumI f) :=
  ⟨PI.imp (pi_enum hg hm ha.pa hs) fun σ H R ⟨S, r, zs, o, ef, k⟩ => by
    simp only [enumI, Option.bind_eq_bind, Option.bind_eq_some_iff] at ef
    obtain ⟨dx, e1, e3⟩ := ef
    refine ⟨S, r, [dx], o, by simp [argsE, e1], fun vs H' n hl hv => ?_⟩
    match vs, hl with
    | [v], _ =>
      have r1 := hv 0 v dx rfl rfl
      unfold enumD at e3
      split at e3
      · cases e3
        obtain ⟨a1, xs, rfl, h1, _⟩ := r1.look.list
        exact ⟨a1, xs, rfl, h1, k _ H' [(_, _)] [] n (fun x hx => by simp at hx; subst hx; exact r1) Fx.nil (it_enum rfl)⟩
      · cases e3⟩
theorem i_rev {q : Bool} {tg : Expr} (hm : X.mg "reversed" = none) (ha : DQ X T q a f) (hg : Gl X "reversed" := by rfl) (hs : starEach [a] X.env = (false, eval a X.env) :: starEach [] X.env := by rfl) :
    DI X T q tg (.Call (.Name "reversed" p) [a] [] pos) (revI f) :=
  ⟨PI.imp (RT.pi_revA hg hm ha.pe hs) fun σ H R ⟨S, r, zs, o, ef, k⟩ => by
    simp only [revI, Option.bind_eq_bind, Option.bind_eq_some_iff] at ef
    obtain ⟨dx, e1, ds, e2, e3⟩ := ef
    cases e3
    refine ⟨S, r, dx, o, e1, fun v H' n r1 => ?_⟩
    unfold seqD at e2
    split at e2
    · cases e2
      obtain ⟨a1, xs, rfl, h1, h2⟩ := r1.look.list
      exact ⟨a1, xs, rfl, .inl ⟨h1, k _ H' [(_, _)] [] n (fun x hx => by simp at hx; subst hx; exact r1) Fx.nil (it_revL rfl h2.length)⟩⟩
    · cases e2
      obtain ⟨a1, xs, rfl, h1, h2⟩ := r1.look.tuple
      exact ⟨a1, xs, rfl, .inr ⟨.of h1, k _ H' [(_, _)] [] n (fun x hx => by simp at hx; subst hx; exact r1) Fx.nil (it_revT rfl h2.length)⟩⟩
    · cases e2⟩
end
end Dm
end

section
set_option Elab.async false
set_option linter.all false
set_option autoImplicit true
set_option maxRecDepth 100000
set_option maxHeartbeats 1000000
/-! DKeys: the keys of a dict walked (the dict locked meanwhile). -/
namespace Dm
open PySem PySem.Spec PyProof.Rows L2
/-- a dict with keys -/
def Dct (u : HO) : Prop := (∃ ks, u = .dK ks ∧ ks ≠ []) ∨ ∃ ks, u = .dT ks ∧ ks ≠ []
theorem Dct.mut {u : HO} (d : Dct u) : Mut (some u) := by
  rcases d with ⟨ks, rfl, _⟩ | ⟨ks, rfl, _⟩ <;> trivial
theorem Dct.good {u : HO} (d : Dct u) : Good u := by
  rcases d with ⟨ks, rfl, _⟩ | ⟨ks, rfl, _⟩ <;> trivial
theorem Dct.nt {u : HO} (d : Dct u) : ∀ ps, u ≠ .tbl ps := fun ps => by
  rcases d with ⟨ks, rfl, _⟩ | ⟨ks, rfl, _⟩ <;> exact fun z => by cases z
theorem le_lock {H : Hp} {a : Addr} {u : HO} {o : Obj} (d : Dct u) (e : H a = some u) : Le H (upd H a (.frz o u)) := by
  have ne : ∀ b x, H b = some x → x ≠ u → b ≠ a := fun b x h n z => by rw [z, e] at h; cases h; exact n rfl
  refine ⟨fun b x g h => ?_, fun b xs h => ?_, fun b x g h => ?_⟩
  · by_cases hb : b = a
    · subst hb
      rcases h with h | ⟨o', h⟩
      · rw [e] at h; cases h; exact .inr ⟨o, upd_same⟩
      · rw [e] at h; cases h
        rcases d with ⟨ks, z, _⟩ | ⟨ks, z, _⟩ <;> cases z
    · rcases h with h | ⟨o', h⟩
      · exact .inl ((upd_ne hb).trans h)
      · exact .inr ⟨o', (upd_ne hb).trans h⟩
  · refine (upd_ne (ne b _ h fun z => ?_)).trans h
    rcases d with ⟨ks, y, _⟩ | ⟨ks, y, _⟩ <;> rw [y] at z <;> cases z
  · refine (upd_ne (ne b _ h fun z => ?_)).trans h
    rcases d with ⟨ks, y, n⟩ | ⟨ks, y, n⟩ <;> rcases g with g | g <;> rw [g, y] at z <;> cases z <;> exact n rfl
theorem le_unlock {H : Hp} {a : Addr} {u : HO} {o : Obj} (d : Dct u) (e : H a = some (.frz o u)) : Le H (upd H a u) := by
  have ne : ∀ b x, H b = some x → (∀ o y, x ≠ .frz o y) → b ≠ a := fun b x h n z => by rw [z, e] at h; cases h; exact n _ _ rfl
  refine ⟨fun b x g h => ?_, fun b xs h => (upd_ne (ne b _ h fun _ _ z => by cases z)).trans h, fun b x g h => (upd_ne (ne b _ h fun _ _ z => by rcases g with g | g <;> rw [g] at z <;> cases z)).trans h⟩
  by_cases hb : b = a
  · subst hb
    rcases h with h | ⟨o', h⟩
    · rw [e] at h; cases h; exact g.elim
    · rw [e] at h; cases h; exact .inl upd_same
  · rcases h with h | ⟨o', h⟩
    · exact .inl ((upd_ne hb).trans h)
    · exact .inr ⟨o', (upd_ne hb).trans h⟩
section
variable {K : PySem.W.Frag} {T S : List Addr} {H H' : Hp} {σ : L2.St} {r : Env} {a : Addr} {u : HO} {o : Obj}
theorem tabs_lock {x : HO} (t : Dm.Tabs T H) (h : ∀ ps, H a ≠ some (.tbl ps)) : Dm.Tabs T (upd H a x) := tabs_upd t h
theorem EnvOk.lock (eo : EnvOk K T S H σ r) (d : Dct u) (e : H a = some u) (ha : a ∉ S) : EnvOk K T S (upd H a (.frz o u)) σ r := by
  have l : Le (mns S H) (mns S (upd H a (.frz o u))) := le_mns (le_lock d e)
  refine ⟨tabs_lock eo.tabs fun ps z => by rw [e] at z; cases z; exact d.nt _ rfl, fun b hb => ?_, eo.len, fun i v sl h1 h2 => ?_, eo.inj⟩
  · obtain ⟨x, h1, h2⟩ := eo.live b hb
    exact ⟨x, (upd_ne fun z => ha (by rw [← z]; exact hb)).trans h1, h2⟩
  · have q := eo.slot i v sl h1 h2
    cases sl with
    | no => exact q
    | va d => obtain ⟨x, z1, z2⟩ := q; exact ⟨x, z1, z2.le l⟩
    | ow d =>
      obtain ⟨p', z1, z2, z3⟩ := q
      refine ⟨p', z1, z2, ?_⟩
      have hne : p' ≠ a := fun z => ha (z ▸ z2)
      cases z3 with
      | lst e1 r1 => exact .lst ((upd_ne hne).trans e1) (r1.le l)
      | dk e1 r1 => exact .dk ((upd_ne hne).trans e1) (r1.le l)
      | dt e1 r1 => exact .dt ((upd_ne hne).trans e1) (r1.le l)
theorem Nxt.unlock (n : Nxt T (upd H a (.frz o u)) H') (e : H a = some u) (d : Dct u) : H' a = some (.frz o u) ∧ Nxt T H (upd H' a u) := by
  have e' : H' a = some (.frz o u) := n.ext a _ upd_same fun ps z => by cases z
  refine ⟨e', fun b x h nt => ?_, tabs_lock n.tabs (fun ps z => (by rw [e'] at z; cases z)), fun b ps h => ?_⟩
  · by_cases hb : b = a
    · subst hb; rw [e] at h; cases h; exact upd_same
    · exact (upd_ne hb).trans (n.ext b x ((upd_ne hb).trans h) nt)
  · by_cases hb : b = a
    · subst hb; rw [e] at h; cases h; exact absurd rfl (d.nt _)
    · obtain ⟨ps', h'⟩ := n.tbl b ps ((upd_ne hb).trans h)
      exact ⟨ps', (upd_ne hb).trans h'⟩
theorem Own.unlock {p : Addr} {x : D} (ow : Own K S H p x) (e : H a = some (.frz o u)) (d : Dct u) : Own K S (upd H a u) p x := by
  have l : Le (mns S H) (mns S (upd H a u)) := le_mns (le_unlock d e)
  have ne : ∀ y, H p = some y → (∀ o z, y ≠ .frz o z) → p ≠ a := fun y h n z => by rw [z, e] at h; cases h; exact n _ _ rfl
  cases ow with
  | lst e1 r1 => exact .lst ((upd_ne (ne _ e1 fun _ _ z => by cases z)).trans e1) (r1.le l)
  | dk e1 r1 => exact .dk ((upd_ne (ne _ e1 fun _ _ z => by cases z)).trans e1) (r1.le l)
  | dt e1 r1 => exact .dt ((upd_ne (ne _ e1 fun _ _ z => by cases z)).trans e1) (r1.le l)
theorem RpK.keys : ∀ {ks : List (Key × V)} {kvs : List (D × D)}, RpK K H ks kvs → kvs.map (·.1) = ks.map fun q => kD q.1
  | _, _, .nil => rfl
  | _, _, .cons _ r => by rw [List.map_cons, List.map_cons, r.keys]
theorem RpT.keys : ∀ {ks : List (List Key × V)} {kvs : List (D × D)}, RpT K H ks kvs → kvs.map (·.1) = ks.map fun q => PyData.tuple (q.1.map kD)
  | _, _, .nil => rfl
  | _, _, .cons _ r => by rw [List.map_cons, List.map_cons, r.keys]
theorem rp_kD (k : Key) : Rp K H (kV k) (kD k) := by
  cases k with
  | inl i => exact .int i
  | inr x => exact .str x
theorem rpAll_kD : ∀ ks : List Key, RpAll K H (ks.map kV) (ks.map kD)
  | [] => .nil
  | k :: ks => .cons (rp_kD k) (rpAll_kD ks)
theorem it_keysK {ks : List (Key × V)} : ItOk K T [] [(a, .frz o (.dK ks))] (ks.map fun q => kD q.1) (Itk a o ks) := fun S H t l k fx => by
  obtain ⟨h1, _, _⟩ := fx (a, .frz o (.dK ks)) (by simp)
  refine ⟨fun i hi => ⟨h1, by simpa using hi⟩, fun i d hd => ?_⟩
  rw [List.getElem?_map] at hd
  cases hk : ks[i]? with
  | none => rw [hk] at hd; cases hd
  | some q =>
    rw [hk] at hd
    cases hd
    refine ⟨⟨h1, (List.getElem?_eq_some_iff.mp hk).1⟩, fun x H' ⟨e1, k', v', e2, e3⟩ => ?_⟩
    rw [hk] at e2
    cases e2
    subst e1 e3
    exact ⟨Nxt.refl t, rp_kD _⟩
theorem it_keysT {ks : List (List Key × V)} : ItOk K T [] [(a, .frz o (.dT ks))] (ks.map fun q => PyData.tuple (q.1.map kD)) (Itkt a o ks) := fun S H t l k fx => by
  obtain ⟨h1, _, _⟩ := fx (a, .frz o (.dT ks)) (by simp)
  refine ⟨fun i hi => ⟨h1, by simpa using hi⟩, fun i d hd => ?_⟩
  rw [List.getElem?_map] at hd
  cases hk : ks[i]? with
  | none => rw [hk] at hd; cases hd
  | some q =>
    rw [hk] at hd
    cases hd
    refine ⟨⟨h1, (List.getElem?_eq_some_iff.mp hk).1⟩, fun x H' ⟨e1, k', v', p, e2, e3, e4⟩ => ?_⟩
    rw [hk] at e2
    cases e2
    subst e1 e3
    refine ⟨Nxt.refl t, .tup ((mns_of fun z => ?_).trans e4) (rpAll_kD _)⟩
    obtain ⟨x, h2, h3⟩ := l p z
    rw [h2] at e4
    cases e4
    exact h3.tup _ rfl
/-- a dict that stays, at a name -/
theorem EnvOk.dict (eo : EnvOk K T S H σ r) {i : Nat} {kvs : List (D × D)} (h : r[i]? = some (.va (.dict kvs))) :
    ∃ a, σ[i]? = some (some (.ref a)) ∧ a ∉ S ∧ ((∃ ks, Rd H a (.dK ks) ∧ (ks = [] → H a = some (.dK [])) ∧ kvs.map (·.1) = ks.map fun q => kD q.1) ∨ ∃ ks, Rd H a (.dT ks) ∧ (ks = [] → H a = some (.dT [])) ∧ kvs.map (·.1) = ks.map fun q => PyData.tuple (q.1.map kD)) := by
  obtain ⟨v, e1, x, e2, rp⟩ := eo.at h
  subst e2
  cases rp with
  | dk q m rr =>
    obtain ⟨q1, q2⟩ := rd_mns q
    exact ⟨_, e1, q2, .inl ⟨_, q1, fun z => (mns_some (m z)).1, rr.keys⟩⟩
  | dt q m rr =>
    obtain ⟨q1, q2⟩ := rd_mns q
    exact ⟨_, e1, q2, .inr ⟨_, q1, fun z => (mns_some (m z)).1, rr.keys⟩⟩
/-- the iterator's reading, the dict being locked -/
theorem keys_read {i : Nat} {R : It → Hp → Prop} (ha : σ[i]? = some (some (.ref a))) (hu : (∃ ks, u = .dK ks) ∨ ∃ ks, u = .dT ks) (hH : H a = some (.frz o u)) (h : tDI K T false (keysI (vE i)) σ H R) : iKeys (tVar i) σ H R := by
  obtain ⟨S, r, ds, eo, ef, k⟩ := h
  simp only [keysI, Option.bind_eq_bind, Option.bind_eq_some_iff] at ef
  obtain ⟨d, e1, e2⟩ := ef
  split at e2
  · rename_i kvs
    cases e2
    have hi : r[i]? = some (.va (.dict kvs)) := by
      unfold vE at e1
      split at e1
      · rename_i d' hd'; cases e1; exact hd'
      · cases e1
    obtain ⟨a', e3, hS, hh⟩ := eo.dict hi
    rw [ha] at e3
    cases e3
    have nx : Nxt T H H := Nxt.refl eo.tabs
    have fx : Fx [(a, .frz o u)] S H := fun q hq => by
      simp at hq
      subst hq
      exact ⟨hH, hS, fun ps z => by cases z⟩
    rcases hu with ⟨ks, rfl⟩ | ⟨ks, rfl⟩
    · rcases hh with ⟨ks', q1, _, q3⟩ | ⟨ks', q1, _, q3⟩
      · have : ks' = ks := by
          rcases q1 with q1 | ⟨o', q1⟩ <;> rw [hH] at q1 <;> cases q1
          rfl
        subst this
        exact ⟨_, ha, a, o, rfl, .inl ⟨ks', hH, k _ H [] _ nx (fun x hx => by cases hx) fx (by rw [q3]; exact it_keysK)⟩⟩
      · rcases q1 with q1 | ⟨o', q1⟩ <;> rw [hH] at q1 <;> cases q1
    · rcases hh with ⟨ks', q1, _, q3⟩ | ⟨ks', q1, _, q3⟩
      · rcases q1 with q1 | ⟨o', q1⟩ <;> rw [hH] at q1 <;> cases q1
      · have : ks' = ks := by
          rcases q1 with q1 | ⟨o', q1⟩ <;> rw [hH] at q1 <;> cases q1
          rfl
        subst this
        exact ⟨_, ha, a, o, rfl, .inr ⟨ks', hH, k _ H [] _ nx (fun x hx => by cases hx) fx (by rw [q3]; exact it_keysT)⟩⟩
  · cases e2
end
theorem PE.or {X : Cx} {e : Expr} {t u : TE} (h : PE X e t) (h' : PE X e u) : PE X e (fun σ H Q => t σ H Q ∨ u σ H Q) := ⟨fun pins s σ H Q I q => q.elim (h.run pins s σ H Q I) (h'.run pins s σ H Q I)⟩
section
variable {X : Cx} {T : List Addr} {elt tg : Expr} {ifs : List Expr} {scope : Scope} {own : List (Str × Nat)} {t : Tg} {ts : Dm.T} {el : E} {pos p : Pos}
/-- the reading of a comprehension over a dict's keys -/
theorem lcK_read {i : Nat} {own : List Nat} (hw : ∀ j ∈ t.slots, j ∈ own) {K : PySem.W.Frag} {σ : L2.St} {H : Hp} {Q : VK} (h : tDF K T (lstI (compI own (keysI (vE i)) t ts el)) σ H Q) :
    tLockE (tLc (iKeys (tVar i)) (tDG K T t) (tDT K T ts) (tDE K T el) own) σ H Q ∨ tLc (iKeys (tVar i)) (tDG K T t) (tDT K T ts) (tDE K T el) own σ H Q := by
  obtain ⟨S, r, d, eo, ef, k⟩ := h
  have ef0 := ef
  simp only [lstI, compI, keysI, Option.bind_eq_bind, Option.bind_eq_some_iff] at ef
  obtain ⟨zs, ⟨ds, ⟨dd, e1, e2⟩, ys, e3, e4⟩, e5⟩ := ef
  split at e2
  · rename_i kvs
    have e2 := Option.some.inj e2
    subst e2
    have hi : r[i]? = some (.va (.dict kvs)) := by
      unfold vE at e1
      split at e1
      · rename_i d' hd'; cases e1; exact hd'
      · cases e1
    obtain ⟨a, ha, hS, hh⟩ := eo.dict hi
    -- locked here
    have lock : ∀ u, H a = some u → Dct u → tLockE (tLc (iKeys (tVar i)) (tDG K T t) (tDT K T ts) (tDE K T el) own) σ H Q := fun u e dc => by
      refine ⟨a, u, e, dc.mut, fun od => ?_⟩
      have eo' := eo.lock (o := od) dc e hS
      have hu : (∃ ks, u = .dK ks) ∨ ∃ ks, u = .dT ks := by
        rcases dc with ⟨ks, z, _⟩ | ⟨ks, z, _⟩
        · exact .inl ⟨ks, z⟩
        · exact .inr ⟨ks, z⟩
      have lc := lc_read (q := false) (it := keysI (vE i)) (Q := fun v H' => H' a = some (.frz od u) ∧ Q v (upd H' a u)) hw eo' ef0 fun p H' hp n ow => by
        obtain ⟨e', n'⟩ := n.unlock e dc
        have hp' : H p = Option.none := by
          by_cases hb : p = a
          · subst hb; rw [upd_same] at hp; cases hp
          · rw [upd_ne hb] at hp; exact hp
        exact ⟨e', k p _ hp' n' (ow.unlock e' dc)⟩
      exact keys_read (K := K) (T := T) (u := u) (o := od) ha hu upd_same lc
    -- locked already
    have locked : ∀ o u, H a = some (.frz o u) → ((∃ ks, u = .dK ks) ∨ ∃ ks, u = .dT ks) → tLc (iKeys (tVar i)) (tDG K T t) (tDT K T ts) (tDE K T el) own σ H Q := fun o u e hu =>
      have lc := lc_read (q := false) (it := keysI (vE i)) (Q := Q) hw eo ef0 k
      keys_read (K := K) (T := T) (u := u) (o := o) ha hu e lc
    -- no key
    have none : ∀ u, H a = some u → (u = .dK [] ∨ u = .dT []) → kvs.map (·.1) = [] → tLockE (tLc (iKeys (tVar i)) (tDG K T t) (tDT K T ts) (tDE K T el) own) σ H Q := fun u e hu hn => by
      have mu : Mut (some u) := by rcases hu with rfl | rfl <;> trivial
      refine ⟨a, u, e, mu, fun od => ?_⟩
      rw [hn] at e3
      simp only [compL, Option.some.injEq] at e3
      subst e3
      have hz : zs = [] := by
        unfold fitL at e4
        rw [if_pos (by decide)] at e4
        exact (Option.some.inj e4).symm
      subst hz
      cases e5
      have back : upd (upd H a (.frz od u)) a u = H := by
        funext b
        by_cases hb : b = a
        · subst hb; rw [upd_same, e]
        · rw [upd_ne hb, upd_ne hb]
      have fin : ∀ D, (upd H a (.frz od u)) D = Option.none → (upd (upd H a (.frz od u)) D (.lst [])) a = some (.frz od u) ∧ Q (.ref D) (upd (upd (upd H a (.frz od u)) D (.lst [])) a u) := fun D hD => by
        have hDa : D ≠ a := fun z => by rw [z, upd_same] at hD; cases hD
        refine ⟨(upd_ne (Ne.symm hDa)).trans upd_same, ?_⟩
        have hc : upd (upd (upd H a (.frz od u)) D (.lst [])) a u = upd H D (.lst []) := by
          funext b
          by_cases hb : b = a
          · subst hb; rw [upd_same, upd_ne (Ne.symm hDa), e]
          · by_cases hd : b = D
            · subst hd; rw [upd_ne hb, upd_same, upd_same]
            · rw [upd_ne hb, upd_ne hd, upd_ne hb, upd_ne hd]
        rw [hc]
        rw [upd_ne hDa] at hD
        exact k D _ hD (nxt_new eo.tabs hD) (.lst upd_same .nil)
      rcases hu with rfl | rfl
      · refine ⟨_, ha, a, od, rfl, .inl ⟨[], upd_same, fun D hD => ⟨fun i m Hc => i = 0 ∧ Hc = upd (upd H a (.frz od (.dK []))) D (.lst []), ⟨0, rfl, rfl⟩, ?_⟩⟩⟩
        rintro i m Hc ⟨rfl, rfl⟩
        exact .inl ⟨⟨(fin D hD).1, Nat.zero_le _⟩, fin D hD⟩
      · refine ⟨_, ha, a, od, rfl, .inr ⟨[], upd_same, fun D hD => ⟨fun i m Hc => i = 0 ∧ Hc = upd (upd H a (.frz od (.dT []))) D (.lst []), ⟨0, rfl, rfl⟩, ?_⟩⟩⟩
        rintro i m Hc ⟨rfl, rfl⟩
        exact .inl ⟨⟨(fin D hD).1, Nat.zero_le _⟩, fin D hD⟩
    rcases hh with ⟨ks, q1, q2, q3⟩ | ⟨ks, q1, q2, q3⟩
    · by_cases hk : ks = []
      · subst hk
        exact .inl (none _ (q2 rfl) (.inl rfl) q3)
      · rcases q1 with q1 | ⟨o, q1⟩
        · exact .inl (lock _ q1 (.inl ⟨ks, rfl, hk⟩))
        · exact .inr (locked o _ q1 (.inl ⟨ks, rfl⟩))
    · by_cases hk : ks = []
      · subst hk
        exact .inl (none _ (q2 rfl) (.inr rfl) q3)
      · rcases q1 with q1 | ⟨o, q1⟩
        · exact .inl (lock _ q1 (.inr ⟨ks, rfl, hk⟩))
        · exact .inr (locked o _ q1 (.inr ⟨ks, rfl⟩))
  · cases e2
theorem f_lcK (i : Nat) {x : Str} {p2 : Pos} (hc : X.calm = true) (hNd : X.N.Nodup) (ok : BlkOk X.N X.env.scope scope own)
    (hg : ∀ (s : Shared) (H : Hp) (C : Addr) (cl : List (Str × Addr)) (fp : List Addr), DG (X.blk s H scope (compEnvC scope cl C X.env) fp) T tg t) (ht : ∀ (s : Shared) (H : Hp) (C : Addr) (cl : List (Str × Addr)) (fp : List Addr), DTs (X.blk s H scope (compEnvC scope cl C X.env) fp) T ifs ts)
    (he : ∀ (s : Shared) (H : Hp) (C : Addr) (cl : List (Str × Addr)) (fp : List Addr), DE (X.blk s H scope (compEnvC scope cl C X.env) fp) T elt el) (hw : ∀ j ∈ t.slots, j ∈ own.map (·.2) := by decide)
    (hN : X.N[i]? = some x := by rfl) (hv : Vis X.env.scope x := by first | exact Or.inl rfl | exact Or.inr (Or.inl rfl) | exact Or.inr (Or.inr rfl)) (hd : (x == ("__debug__" : Str)) = false := by decide) (hcd : (x == ("__classdict__" : Str)) = false := by decide)
    (hs : ∀ y, foldedSetIterable (.Name x p2) X.env y = pure y := by intro _; rfl) :
    DF X T (.ListComp elt [⟨tg, .Name x p2, ifs, 0⟩] scope pos) (lstI (compI (own.map (·.2)) (keysI (vE i)) t ts el)) := by
  have base := pe_lc (pos := pos) (elt := elt) (g := tDG X.K T t) (tt := tDT X.K T ts) (te := tDE X.K T el) hc hNd (pi_keys (tg := tg) (pe_var hN hv hd hcd)) ok (fun s H C cl fp => (hg s H C cl fp).pg) (fun s H C cl fp => (ht s H C cl fp).pt) (fun s H C cl fp => (he s H C cl fp).pe) hs
  exact ⟨PE.imp (PE.or (pe_lock base) base) fun σ H Q h => lcK_read hw h⟩
end
end Dm
end

section
set_option Elab.async false
set_option linter.all false
set_option autoImplicit true
set_option maxRecDepth 100000
set_option maxHeartbeats 1000000
/-! DFun1: tuple(..), list(..), sum, isinstance, index, all and any of a list. -/
namespace Dm
open PySem PySem.Spec PyProof.Rows L2
theorem rpAll_intsOf {K : PySem.W.Frag} {H : Hp} : ∀ {xs : List V} {ds : List D} {ns : List Int}, RpAll K H xs ds → intsOf ds = some ns → xs = ns.map V.int
  | _, _, _, .nil, h => by simp [intsOf] at h; subst h; rfl
  | _, d :: ds, ns, .cons a r, h => by
    cases d with
    | int i =>
      cases a
      simp only [intsOf, Option.map_eq_some_iff] at h
      obtain ⟨ms, h1, rfl⟩ := h
      rw [rpAll_intsOf r h1]; rfl
    | _ => simp [intsOf] at h
theorem rpAll_boolsOf {K : PySem.W.Frag} {H : Hp} : ∀ {xs : List V} {ds : List D} {ns : List Bool}, RpAll K H xs ds → boolsOf ds = some ns → xs = ns.map V.bl
  | _, _, _, .nil, h => by simp [boolsOf] at h; subst h; rfl
  | _, d :: ds, ns, .cons a r, h => by
    cases d with
    | bool i =>
      cases a
      simp only [boolsOf, Option.map_eq_some_iff] at h
      obtain ⟨ms, h1, rfl⟩ := h
      rw [rpAll_boolsOf r h1]; rfl
    | _ => simp [boolsOf] at h
section
variable {X : Cx} {T : List Addr} {e a b c : Expr} {es rest : List Expr} {f g h : E} {fs : List E} {pos p p2 pos2 : Pos}
/-- one value, looked at -/
theorem rD_one {o : D → Option D} {xs : List V} {H : Hp} {Q : VK} (h : rD X.K T (on1 o) xs H Q) : ∃ S d x r, Dm.Tabs T H ∧ Live S H ∧ xs = [x] ∧ RpB X.K S H x d ∧ o d = some r ∧ ∀ z H', Nxt T H H' → Rp X.K (mns S H') z r → Q z H' := by
  obtain ⟨S, ds, r, t, l, rp, eo, q⟩ := h
  obtain ⟨d, rfl, e2⟩ := on1_some eo
  obtain ⟨x, rfl, hx⟩ := rp.one
  exact ⟨S, d, x, r, t, l, rfl, hx, e2, q⟩
theorem rF_one {o : D → Option D} {xs : List V} {H : Hp} {Q : VK} (h : rF X.K T (on1 o) xs H Q) : ∃ S d x r, Dm.Tabs T H ∧ Live S H ∧ xs = [x] ∧ RpB X.K S H x d ∧ o d = some r ∧ ∀ p H', H p = none → Nxt T H H' → Own X.K (p :: S) H' p r → Q (.ref p) H' := by
  obtain ⟨S, ds, r, t, l, rp, eo, q⟩ := h
  obtain ⟨d, rfl, e2⟩ := on1_some eo
  obtain ⟨x, rfl, hx⟩ := rp.one
  exact ⟨S, d, x, r, t, l, rfl, hx, e2, q⟩
theorem cd_sum (hc : X.calm = true) : CallR X (.builtin "sum") (rD X.K T (on1 sumD)) := by
  intro pins s σ H xs us Q I rx hh
  obtain ⟨S, d, x, r, t, l, rfl, hx, eo, q⟩ := rD_one hh
  unfold sumD at eo
  split at eo
  · simp only [Option.map_eq_some_iff] at eo
    obtain ⟨ns, h1, rfl⟩ := eo
    obtain ⟨a, ys, rfl, hl, rr⟩ := hx.list
    exact cr_sum hc pins s σ H _ us Q I rx ⟨a, ns, rfl, by rw [← rpAll_intsOf rr h1]; exact hl, q _ H (Nxt.refl t) (.int _)⟩
  · cases eo
theorem e_sum (hm : X.mg "sum" = none) (ha : DB X T a f) (hc : X.calm = true := by rfl) (hg : Gl X "sum" := by rfl) (he : starEach [a] X.env = (false, eval a X.env) :: starEach [] X.env := by rfl) : DE X T (.Call (.Name "sum" p) [a] [] pos) (unE sumD f) :=
  (e_bi (cd_sum hc) hm (by decide +kernel) (b_cons ha b_nil he) hg (by decide) (by decide) he).of fun _ _ h => un_on1 h
theorem cd_all (hc : X.calm = true) : CallR X (.builtin "all") (rD X.K T (on1 allLD)) := by
  intro pins s σ H xs us Q I rx hh
  obtain ⟨S, d, x, r, t, l, rfl, hx, eo, q⟩ := rD_one hh
  unfold allLD at eo
  split at eo
  · simp only [Option.map_eq_some_iff] at eo
    obtain ⟨ns, h1, rfl⟩ := eo
    obtain ⟨a, ys, rfl, hl, rr⟩ := hx.list
    exact cr_all hc pins s σ H _ us Q I rx ⟨a, ns, rfl, by rw [← rpAll_boolsOf rr h1]; exact hl, q _ H (Nxt.refl t) (.bl _)⟩
  · cases eo
theorem e_allL (hm : X.mg "all" = none) (ha : DB X T a f) (hc : X.calm = true := by rfl) (hg : Gl X "all" := by rfl) (he : starEach [a] X.env = (false, eval a X.env) :: starEach [] X.env := by rfl) : DE X T (.Call (.Name "all" p) [a] [] pos) (unE allLD f) :=
  (e_bi (cd_all hc) hm (by decide +kernel) (b_cons ha b_nil he) hg (by decide) (by decide) he).of fun _ _ h => un_on1 h
theorem cd_any (hc : X.calm = true) : CallR X (.builtin "any") (rD X.K T (on1 anyLD)) := by
  intro pins s σ H xs us Q I rx hh
  obtain ⟨S, d, x, r, t, l, rfl, hx, eo, q⟩ := rD_one hh
  unfold anyLD at eo
  split at eo
  · simp only [Option.map_eq_some_iff] at eo
    obtain ⟨ns, h1, rfl⟩ := eo
    obtain ⟨a, ys, rfl, hl, rr⟩ := hx.list
    exact cr_any hc pins s σ H _ us Q I rx ⟨a, ns, rfl, by rw [← rpAll_boolsOf rr h1]; exact hl, q _ H (Nxt.refl t) (.bl _)⟩
  · cases eo
theorem e_anyL (hm : X.mg "any" = none) (ha : DB X T a f) (hc : X.calm = true := by rfl) (hg : Gl X "any" := by rfl) (he : starEach [a] X.env = (false, eval a X.env) :: starEach [] X.env := by rfl) : DE X T (.Call (.Name "any" p) [a] [] pos) (unE anyLD f) :=
  (e_bi (cd_any hc) hm (by decide +kernel) (b_cons ha b_nil he) hg (by decide) (by decide) he).of fun _ _ h => un_on1 h

/-! ### tuple(..), list(..) -/
theorem tupD_of {r : Env} {d : D} (h : tupI (seqI f) r = some d) : unE tupD f r = some d := by
  simp only [tupI, seqI, Option.bind_eq_bind, Option.bind_eq_some_iff] at h
  obtain ⟨ds, ⟨x, h1, h2⟩, h3⟩ := h
  simp only [unE, tupD, Option.bind_eq_bind, h1, Option.bind_some, h2, Option.map_some]
  exact h3
theorem lstD_of {r : Env} {d : D} (h : lstI (seqI f) r = some d) : unE lstD f r = some d := by
  simp only [lstI, seqI, Option.bind_eq_bind, Option.bind_eq_some_iff] at h
  obtain ⟨ds, ⟨x, h1, h2⟩, h3⟩ := h
  simp only [unE, lstD, Option.bind_eq_bind, h1, Option.bind_some, h2, Option.map_some]
  exact h3
theorem cd_tup : CallR X (.type "tuple") (rD X.K T (on1 tupD)) := by
  intro pins s σ H xs us Q I rx hh
  obtain ⟨S, d, x, r, t, l, rfl, hx, eo, q⟩ := rD_one hh
  simp only [tupD, Option.map_eq_some_iff] at eo
  obtain ⟨ds, h1, rfl⟩ := eo
  unfold seqD at h1
  split at h1
  · cases h1
    obtain ⟨a, ys, rfl, hl, rr⟩ := hx.list
    exact call_tuple_of pins s σ H _ us Q I rx ⟨a, ys, rfl, .inl ⟨hl, fun p hp => by
      obtain ⟨n1, r1⟩ := rp_newtup t l hp rr
      exact q _ _ n1 r1⟩⟩
  · cases h1
    have hx0 := hx
    obtain ⟨a, ys, rfl, hl, rr⟩ := hx.tuple
    refine call_tuple_of pins s σ H _ us Q I rx ⟨a, ys, rfl, .inr ⟨.of hl, q _ H (Nxt.refl t) ?_⟩⟩
    rcases hx0 with h | ⟨p, e, o⟩
    · exact h
    · cases o
  · cases h1
theorem e_tupOf (hm : X.mg "tuple" = none) (ha : DB X T a f) (hg : Gl X "tuple" := by rfl) (he : starEach [a] X.env = (false, eval a X.env) :: starEach [] X.env := by rfl) : DE X T (.Call (.Name "tuple" p) [a] [] pos) (tupI (seqI f)) :=
  (e_bt cd_tup hm (by decide +kernel) (b_cons ha b_nil he) hg (by decide) (by decide) he).of fun _ _ h => un_on1 (tupD_of h)
theorem cd_list : CallR X (.type "list") (rF X.K T (on1 lstD)) := by
  intro pins s σ H xs us Q I rx hh
  obtain ⟨S, d, x, r, t, l, rfl, hx, eo, q⟩ := rF_one hh
  simp only [lstD, Option.map_eq_some_iff] at eo
  obtain ⟨ds, h1, rfl⟩ := eo
  unfold seqD at h1
  split at h1
  · cases h1
    obtain ⟨a, ys, rfl, hl, rr⟩ := hx.list
    exact call_list_of pins s σ H _ us Q I rx ⟨a, ys, rfl, .inl hl, fun p hp => by
      obtain ⟨n1, o1⟩ := own_newlst t l hp rr
      exact q _ _ hp n1 o1⟩
  · cases h1
    obtain ⟨a, ys, rfl, hl, rr⟩ := hx.tuple
    exact call_list_of pins s σ H _ us Q I rx ⟨a, ys, rfl, .inr (.of hl), fun p hp => by
      obtain ⟨n1, o1⟩ := own_newlst t l hp rr
      exact q _ _ hp n1 o1⟩
  · cases h1
theorem f_lstOf (hm : X.mg "list" = none) (ha : DB X T a f) (hg : Gl X "list" := by rfl) (he : starEach [a] X.env = (false, eval a X.env) :: starEach [] X.env := by rfl) : DF X T (.Call (.Name "list" p) [a] [] pos) (lstI (seqI f)) :=
  (f_bt cd_list hm (by decide +kernel) (b_cons ha b_nil he) hg (by decide) (by decide) he).of fun _ _ h => un_on1 (lstD_of h)
theorem rgV_rp {K : PySem.W.Frag} {H : Hp} (a b : Int) : RpAll K H (rgV a b) (rangeL a b) := by
  unfold rgV rangeL
  generalize (b - a).toNat = n
  generalize hl : List.range n = l
  clear hl
  induction l with
  | nil => exact .nil
  | cons i l ih => exact .cons (.int _) ih
theorem rgI'_some {r : Env} {ds : List D} (h : rgI' f g r = some ds) : ∃ a b, f r = some (.int a) ∧ g r = some (.int b) ∧ RgOk a b ∧ ds = rangeL a b := by
  simp only [rgI', Option.bind_eq_bind, Option.bind_eq_some_iff] at h
  obtain ⟨xs, h1, h2⟩ := h
  obtain ⟨a, b, e1, e2, b1, b2, rfl⟩ := rgI_some h1
  unfold fitL at h2
  split at h2
  · rename_i hz
    cases h2
    have hz : (rangeL a b).length ≤ 16777216 := of_decide_eq_true hz
    simp [rangeL] at hz
    obtain ⟨q1, q2⟩ := big_ok b1
    obtain ⟨q3, q4⟩ := big_ok b2
    exact ⟨a, b, e1, e2, ⟨q1, q2, q3, q4, by omega⟩, rfl⟩
  · cases h2
theorem e_tupRg1 (hm : X.mg "tuple" = none) (hm2 : X.mg "range" = none) (ha : DE X T a f) (hc : X.calm = true := by rfl) (hg : Gl X "tuple" := by rfl) (hg2 : Gl X "range" := by rfl) (he : starEach [a] X.env = (false, eval a X.env) :: starEach [] X.env := by rfl)
    (he2 : starEach [.Call (.Name "range" p2) [a] [] pos2] X.env = (false, eval (.Call (.Name "range" p2) [a] [] pos2) X.env) :: starEach [] X.env := by rfl) : DE X T (.Call (.Name "tuple" p) [.Call (.Name "range" p2) [a] [] pos2] [] pos) (tupI (rgI' (kE (.int 0)) f)) :=
  ⟨PE.imp (pe_tupRg hc hg hm (prg_1 hg2 hm2 ha.pe he) he2) fun σ H Q ⟨S, r, d, o, ef, q⟩ => by
    simp only [tupI, Option.bind_eq_bind, Option.bind_eq_some_iff] at ef
    obtain ⟨ds, e1, e2⟩ := ef
    cases e2
    obtain ⟨i, j, h1, h2, ok, rfl⟩ := rgI'_some e1
    cases h1
    refine ⟨S, r, _, o, h2, fun v H1 n1 rv => ?_⟩
    cases rv
    refine ⟨j, rfl, ok, fun p hp => ?_⟩
    obtain ⟨n2, r2⟩ := rp_newtup (S := S) n1.tabs (o.live.ext n1.ext) hp (rgV_rp 0 j)
    exact q _ _ (n1.trans n2) r2⟩
theorem e_tupRg2 (hm : X.mg "tuple" = none) (hm2 : X.mg "range" = none) (ha : DE X T a f) (hb : DE X T b g) (hc : X.calm = true := by rfl) (hg : Gl X "tuple" := by rfl) (hg2 : Gl X "range" := by rfl) (he : starEach [a, b] X.env = (false, eval a X.env) :: starEach [b] X.env := by rfl)
    (he3 : starEach [b] X.env = (false, eval b X.env) :: starEach [] X.env := by rfl)
    (he2 : starEach [.Call (.Name "range" p2) [a, b] [] pos2] X.env = (false, eval (.Call (.Name "range" p2) [a, b] [] pos2) X.env) :: starEach [] X.env := by rfl) (hpl : (backTo pos2 (starEach [b] X.env)).any (·.1) = false := by rfl) : DE X T (.Call (.Name "tuple" p) [.Call (.Name "range" p2) [a, b] [] pos2] [] pos) (tupI (rgI' f g)) :=
  ⟨PE.imp (pe_tupRg hc hg hm (prg_2 hg2 hm2 ha.pe hb.pe he he3 hpl) he2) fun σ H Q ⟨S, r, d, o, ef, q⟩ => by
    simp only [tupI, Option.bind_eq_bind, Option.bind_eq_some_iff] at ef
    obtain ⟨ds, e1, e2⟩ := ef
    cases e2
    obtain ⟨i, j, h1, h2, ok, rfl⟩ := rgI'_some e1
    refine ⟨S, r, _, o, h1, fun v H1 n1 rv => ?_⟩
    refine ⟨S, r, _, o.nxt n1, h2, fun u H2 n2 ru => ?_⟩
    cases rv
    cases ru
    refine ⟨i, j, rfl, rfl, ok, fun p hp => ?_⟩
    obtain ⟨n3, r3⟩ := rp_newtup (S := S) n2.tabs (o.live.ext (n1.trans n2).ext) hp (rgV_rp i j)
    exact q _ _ ((n1.trans n2).trans n3) r3⟩
theorem f_lstRg1 (hm : X.mg "list" = none) (hm2 : X.mg "range" = none) (ha : DE X T a f) (hc : X.calm = true := by rfl) (hg : Gl X "list" := by rfl) (hg2 : Gl X "range" := by rfl) (he : starEach [a] X.env = (false, eval a X.env) :: starEach [] X.env := by rfl)
    (he2 : starEach [.Call (.Name "range" p2) [a] [] pos2] X.env = (false, eval (.Call (.Name "range" p2) [a] [] pos2) X.env) :: starEach [] X.env := by rfl) : DF X T (.Call (.Name "list" p) [.Call (.Name "range" p2) [a] [] pos2] [] pos) (lstI (rgI' (kE (.int 0)) f)) :=
  ⟨PE.imp (pe_listRg hc hg hm (prg_1 hg2 hm2 ha.pe he) he2) fun σ H Q ⟨S, r, d, o, ef, q⟩ => by
    simp only [lstI, Option.bind_eq_bind, Option.bind_eq_some_iff] at ef
    obtain ⟨ds, e1, e2⟩ := ef
    cases e2
    obtain ⟨i, j, h1, h2, ok, rfl⟩ := rgI'_some e1
    cases h1
    refine ⟨S, r, _, o, h2, fun v H1 n1 rv => ?_⟩
    cases rv
    refine ⟨j, rfl, ok, fun p hp => ?_⟩
    obtain ⟨n2, r2⟩ := own_newlst (S := S) n1.tabs (o.live.ext n1.ext) hp (rgV_rp 0 j)
    exact q _ _ (n1.free hp) (n1.trans n2) r2⟩
end
end Dm
end

section
set_option Elab.async false
set_option linter.all false
set_option autoImplicit true
set_option maxRecDepth 100000
set_option maxHeartbeats 1000000
/-! DFun2: isinstance, index. -/
namespace Dm
open PySem PySem.Spec PyProof.Rows L2
def tyName : Ty → String
  | .int => "int"
  | .bool => "bool"
  | .str => "str"
  | .tup => "tuple"
def dName : D → String
  | .none => "NoneType"
  | .bool _ => "bool"
  | .int _ => "int"
  | .str _ => "str"
  | .list _ => "list"
  | .tuple _ => "tuple"
  | .dict _ => "dict"
theorem kit_all (t : Ty) (d : D) (h : isDict d = false) : kitB (dName d) (tyName t) = some (isiB t d) := by
  cases d with
  | dict _ => cases h
  | _ => cases t <;> simp only [dName, tyName, isiB] <;> decide +kernel
theorem rpB_ty {K : PySem.W.Frag} {S : List Addr} {H : Hp} {x : V} {d : D} (h : RpB K S H x d) (hd : isDict d = false) : TyX K H x (.type (dName d)) := by
  cases d with
  | none => rw [h.none]; exact .base .non
  | bool b => rw [h.bool]; exact .base (.bl b)
  | int i => rw [h.int]; exact .base (.int i)
  | str z => rw [h.str]; exact .base (.str z)
  | list ds =>
    obtain ⟨a, xs, rfl, hl, _⟩ := h.list
    rcases hl with (hl | ⟨o, hl⟩) | ⟨o, its, n, hk, hc, _⟩
    · exact .base (.lst hl)
    · exact .base (.frz hl)
    · exact .kList hk hc
  | tuple ds =>
    obtain ⟨a, xs, rfl, hl, _⟩ := h.tuple
    exact .base (.tup hl)
  | dict _ => cases hd
section
variable {X : Cx} {T : List Addr} {e a b c : Expr} {es rest : List Expr} {f g h : E} {fs : List E} {pos p p2 pos2 : Pos}
theorem pe_tyN {x : Str} {n : String} (hm : X.mg x = none) (hv : bootBuiltins x = some (.type n)) (hg : Gl X x) (hn : x ≠ "__name__") (hd : (x == ("__debug__" : Str)) = false) : PE X (.Name x pos) (tC (.ty n)) :=
  ⟨fun pins s σ H Q I q => ld_blt I hg hm hv ⟨.ty n, H, I, rfl, q⟩ hn hd⟩
theorem e_isi (t : Ty) {x : Str} (hm : X.mg "isinstance" = none) (hm2 : X.mg x = none) (ha : DE X T a f) (hv : bootBuiltins x = some (.type (tyName t)) := by decide +kernel) (hg : Gl X "isinstance" := by rfl) (hg2 : Gl X x := by rfl) (hn : x ≠ "__name__" := by decide) (hd : (x == ("__debug__" : Str)) = false := by decide)
    (he : starEach [a, .Name x p2] X.env = (false, eval a X.env) :: starEach [.Name x p2] X.env := by rfl) (he2 : starEach [.Name x p2] X.env = (false, eval (.Name x p2) X.env) :: starEach [] X.env := by rfl) (hpl : (backTo pos (starEach [.Name x p2] X.env)).any (·.1) = false := by rfl) :
    DE X T (.Call (.Name "isinstance" p) [a, .Name x p2] [] pos) (unE (isiD t) f) :=
  ⟨PE.imp (pe_callB call_isi hg hm (show bootBuiltins "isinstance" = some (.builtin "isinstance") by decide +kernel) (pa_cons ha.pe (pa_cons (pe_tyN (pos := p2) hm2 hv hg2 hn hd) pa_nil he2) he) (by decide) (by decide) he hpl) fun σ H Q ⟨S, r, d, o, ef, q⟩ => by
    obtain ⟨x0, e1, e2⟩ := unE_some ef
    unfold isiD at e2
    split at e2
    · cases e2
    · rename_i hdict
      cases e2
      refine ⟨S, r, x0, o, e1, fun v H1 n1 rv => ?_⟩
      exact ⟨v, .ty (tyName t), _, _, _, rfl, .ty _, rpB_ty (.inl rv) (by simpa using hdict), kit_ty (kit_all t x0 (by simpa using hdict)), q _ H1 n1 (.bl _)⟩⟩
/-- the first equal one -/
theorem indexL_some : ∀ {ds : List D} {d : D} {j : Nat}, indexL ds d = some j → (∃ z, ds[j]? = some z ∧ PyData.eqv z d = true) ∧ ∀ (m : Nat) (z : D), m < j → ds[m]? = some z → PyData.eqv z d = false := fun {ds d j} h => by
  unfold indexL at h
  rw [List.findIdx?_eq_some_iff_getElem] at h
  obtain ⟨h1, h2, h3⟩ := h
  refine ⟨⟨_, List.getElem?_eq_getElem h1, h2⟩, fun m z hm hz => ?_⟩
  obtain ⟨hl, e⟩ := List.getElem?_eq_some_iff.mp hz
  have := h3 m hm
  rw [e] at this
  simpa using this
def rIndexT (K : PySem.W.Frag) : V → List V → Hp → VK → Prop := fun x xs H Q => ∃ (a : Addr) (y : V) (d : D) (ds : List D) (j : Nat), x = V.ref a ∧ xs = [y] ∧ Dp K H (V.ref a) (.tuple ds) ∧ Dp K H y d ∧ plain (.tuple ds) = true ∧ plain d = true ∧ indexL ds d = some j ∧ Q (.int (j : Nat)) H
theorem mt_indexTD (hu : X.A.units + 100 < cLine) : MtR X "tuple.index" (rIndexT X.K) := by
  intro pins s σ H x xs v us Q I rx rxs ⟨a, y, d, ds, j, ex, exs, hl, hy, sl, sd, hj, q⟩
  subst ex exs
  obtain ⟨⟨z, hz, hzj⟩, hno⟩ := indexL_some hj
  cases rx
  obtain ⟨uy, rfl, ry⟩ := rxs.one
  obtain ⟨bs, r1⟩ := Dp.reads I d y uy hy ry
  have hxs : PyData.canLayAll0 ds = true := plain_items2 sl
  have hroom : X.A.units + 1 + min (PyData.depthAll ds) d.depth < cLine := room_in sd hu
  cases hl with
  | tup hs ha =>
    obtain ⟨its, rv, ⟨⟨cls, dd, data, sls⟩, ho, hc, n, hdt⟩, hlen⟩ := I.tuple hs
    simp only at hc hdt
    subst hc hdt
    obtain ⟨as, h4⟩ := Dp.readsAll I ds _ its ha rv
    have hn : its.length = ds.length := SeqAt.ReadsAll.length ds its as h4
    have hmap : its.map (SeqAt.readOf s.heap) = ds := SeqAt.readsAll_map ds its as hxs h4
    obtain ⟨hjd, _⟩ := List.getElem?_eq_some_iff.mp hz
    have hjs : j < its.toArray.size := by simp only [List.size_toArray]; omega
    have look : ∀ (m : Nat) (hm : m < its.toArray.size) (z' : D), ds[m]? = some z' → SeqAt.readOf s.heap its.toArray[m] = z' := fun m hm z' hz' => by
      have hml : m < its.length := by simpa using hm
      rw [← hmap, List.getElem?_map, List.getElem?_eq_getElem hml] at hz'
      simpa using hz'
    refine call_meets PySem.F.slot_tuple_index ⟨_, ho, rfl⟩ PySem.F.entry_tuple_index (PySem.F.args_tuple_index_2 _ _) (TI.tuple_indexAt a its.toArray n dd sls uy (fun u => PyData.eqv (SeqAt.readOf s.heap u) d) j hjs ?_ ?_)
      ⟨ho, SeqAt.items_eqAt (vs := its.toArray) (show ReadsAll s.heap its.toArray.toList ds as from h4) r1 hxs (plain_lay sd) hroom, ⟨.int (j : Nat), H, I.tok _, ⟨_, rfl⟩, q⟩⟩
    · show PyData.eqv (SeqAt.readOf s.heap its.toArray[j]) d = true
      rw [look j hjs z hz]
      exact hzj
    · intro m hm hmj
      have hmd : m < ds.length := by omega
      show PyData.eqv (SeqAt.readOf s.heap its.toArray[m]) d = false
      rw [look m hm _ (List.getElem?_eq_getElem hmd)]
      exact hno m _ hmj (List.getElem?_eq_getElem hmd)
theorem indexD_some {x y r : D} (h : indexD x y = some r) : plain x = true ∧ plain y = true ∧ ((∃ (ds : List D) (j : Nat), x = .list ds ∧ indexL ds y = some j ∧ r = .int (j : Int)) ∨ ∃ (ds : List D) (j : Nat), x = .tuple ds ∧ indexL ds y = some j ∧ r = .int (j : Int)) := by
  unfold indexD at h
  split at h
  · split at h
    · rename_i hb
      obtain ⟨h1, h2⟩ := Bool.and_eq_true_iff.mp hb
      simp only [Option.map_eq_some_iff] at h
      obtain ⟨j, h3, h4⟩ := h
      exact ⟨h1, h2, .inl ⟨_, j, rfl, h3, h4.symm⟩⟩
    · cases h
  · split at h
    · rename_i hb
      obtain ⟨h1, h2⟩ := Bool.and_eq_true_iff.mp hb
      simp only [Option.map_eq_some_iff] at h
      obtain ⟨j, h3, h4⟩ := h
      exact ⟨h1, h2, .inr ⟨_, j, rfl, h3, h4.symm⟩⟩
    · cases h
  · cases h
end
end Dm
end

section
set_option Elab.async false
set_option linter.all false
set_option autoImplicit true
set_option maxRecDepth 100000
set_option maxHeartbeats 1000000
/-! DBack: x[::-1], x[i::-1]. -/
namespace Dm
open PySem PySem.Spec PyProof.Rows L2
/-- how many, from which on -/
def backN (n : Nat) : Option Int → Nat
  | none => n
  | some i => if i < 0 then ((n : Int) + i + 1).toNat else min (i.toNat + 1) n
theorem backN_le (n : Nat) (o : Option Int) : backN n o ≤ n := by
  unfold backN
  cases o with
  | none => exact Nat.le_refl _
  | some i => simp only; split <;> omega
theorem backL_eq {α : Type} (xs : List α) (o : Option Int) : backL xs o = (xs.take (backN xs.length o)).reverse := by
  unfold backL backN
  cases o with
  | none => simp
  | some i => simp only; split <;> rfl
theorem adjust_back (lo : Option Int) (n : Nat) : Builtin.Slice.sliceAdjust lo none (-1) (n : Int) = ((backN n lo : Int) - 1, -1) := by
  have h1 : (-1 : Int) < 0 := by decide
  unfold Builtin.Slice.sliceAdjust backN
  simp only [h1, if_true]
  cases lo with
  | none => rfl
  | some i =>
    simp only
    by_cases hi : i < 0
    · rw [if_pos hi, if_pos hi]; congr 1; omega
    · rw [if_neg hi, if_neg hi]; congr 1; omega
theorem places_back (k : Nat) : Builtin.Slice.slicePlaces ((k : Int) - 1) (-1) (-1) = k := by
  unfold Builtin.Slice.slicePlaces
  have h1 : ¬ ((-1 : Int) > 0) := by decide
  rw [if_neg h1]
  split
  · have : ((k : Int) - 1 - -1 - 1) / (- -1) = (k : Int) - 1 := by
      rw [show (- -1 : Int) = 1 by decide, Int.ediv_one]; omega
    rw [this]; omega
  · omega
theorem pick_back (xs : Array Value) (k : Nat) (hk : k ≤ xs.size) : (List.range k).filterMap (fun (m : Nat) => xs[(((k : Int) - 1) + (m : Int) * (-1)).toNat]?) = (xs.toList.take k).reverse := by
  have e : ∀ m ∈ List.range k, xs[(((k : Int) - 1) + (m : Int) * (-1)).toNat]? = some (((xs.toList.take k).reverse)[m]?.getD .none) := fun m hm => by
    have hm := List.mem_range.mp hm
    have e1 : (((k : Int) - 1) + (m : Int) * (-1)).toNat = k - 1 - m := by omega
    have hl : (xs.toList.take k).length = k := by rw [List.length_take, Array.length_toList]; omega
    rw [e1, List.getElem?_reverse (by rw [hl]; exact hm), hl, List.getElem?_take_of_lt (by omega), Array.getElem?_toList, Array.getElem?_eq_getElem (by omega)]
    rfl
  have hl : (xs.toList.take k).reverse.length = k := by rw [List.length_reverse, List.length_take, Array.length_toList]; omega
  have e2 : ∀ (l : List Nat) (f : Nat → Option Value) (g : Nat → Value), (∀ m ∈ l, f m = some (g m)) → l.filterMap f = l.map g := fun l => by
    induction l with
    | nil => intro f g _; rfl
    | cons m l ih =>
      intro f g hfg
      rw [List.filterMap_cons, hfg m List.mem_cons_self, List.map_cons, ih f g fun x hx => hfg x (List.mem_cons_of_mem _ hx)]
  rw [e2 _ _ _ e]
  apply List.ext_getElem?
  intro i
  rw [List.getElem?_map]
  by_cases hi : i < k
  · rw [List.getElem?_range hi, List.getElem?_eq_getElem (by rw [hl]; exact hi)]
    simp only [Option.map_some]
    rw [List.getElem?_eq_getElem (by rw [hl]; exact hi)]
    rfl
  · rw [List.getElem?_eq_none (by simp; omega), List.getElem?_eq_none (by rw [hl]; omega)]; rfl
section
variable {prog : Program} {w : World} {A : Around} {E : Value → Shared → Prop} {s : Shared}
theorem applied_back {sl : Addr} {vl : Value} {u : Tok} {lo : Option Int} {n : Nat} {Q : Int × Int × Nat → Shared → Prop} (hs : s.heap.IsSliceOf sl vl .none (.int (-1) u)) (pl : IsPart vl lo) (h : Q ((backN n lo : Int) - 1, -1, backN n lo) s) :
    wpAny (model prog w) A (Builtin.Slice.sliceApplied (.ref sl) (pure (n : Int))) Q E s := by
  obtain ⟨os, hos, hcs, hds⟩ := id hs
  unfold Builtin.Slice.sliceApplied Builtin.Slice.sliceFields
  refine wpAny_bind (wpAny_bind (wpAny_field hos hds (x := vl) rfl (wpAny_bind (wpAny_field hos hds (x := .none) rfl (wpAny_bind (wpAny_field hos hds (x := .int (-1) u) rfl (wpAny_pure ?_)))))))
  refine wpAny_bind (HT.slicePart_ (.int (-1) u) ?_)
  show wpAny _ _ (if ((-1 : Int) == 0) = true then _ else _) _ _ s
  rw [if_neg (by decide)]
  refine wpAny_bind (HT.slicePart_ pl (wpAny_bind (HT.slicePart_ .none (wpAny_bind (wpAny_pure ?_)))))
  show wpAny _ _ (match Builtin.Slice.sliceAdjust lo none (-1) (n : Int) with | (lo, hi) => pure (lo, (-1 : Int), Builtin.Slice.slicePlaces lo hi (-1))) _ _ s
  rw [adjust_back lo n]
  show wpAny _ _ (pure ((backN n lo : Int) - 1, (-1 : Int), Builtin.Slice.slicePlaces ((backN n lo : Int) - 1) (-1) (-1))) _ _ s
  rw [places_back]
  exact wpAny_pure h
theorem tuple_back {t sl : Addr} {items : Array Value} {vl : Value} {u : Tok} {lo : Option Int} {Q : Value → Shared → Prop} (ht : IsTup s.heap t items) (hs : s.heap.IsSliceOf sl vl .none (.int (-1) u)) (pl : IsPart vl lo)
    (h : Q (.ref s.heap.objs.size) { s with heap := s.heap.push { cls := .type "tuple", data := .seq ((items.toList.take (backN items.size lo)).reverse).toArray } }) (hz : items.size ≤ sizeLine) : wpAny (model prog w) A (getItem (.ref t) (.ref sl)) Q E s := by
  have fit : sizeOk (.seq ((items.toList.take (backN items.size lo)).reverse).toArray) := by
    show ((items.toList.take (backN items.size lo)).reverse).toArray.size ≤ sizeLine
    have := backN_le items.size lo
    rw [List.size_toArray, List.length_reverse, List.length_take, Array.length_toList]
    omega
  obtain ⟨os, hos, hcs, hds⟩ := id hs
  have hTs : s.TypeIs (.ref sl) "slice" := ⟨os, hos, hcs⟩
  unfold getItem
  try with_reducible refine wpAny_holding ?_
  first | refine wpAny_bind (wpAny_pure ?_) | skip
  refine wpAny_bind (wpAny_sequenceKey ht.typeIs (by decide) ?_)
  refine wpAny_bind (wpAny_callSpecial?_slot (name := Str.ofString "__getitem__") ht.typeIs PyProof.Rows.slot_tuple_getitem (wpAny_call_entry PyProof.Rows.slot_tuple_getitem ht.typeIs entry_tuple_getitem ?_ (args_tuple_getitem _ _)))
  show wpAny _ _ (Builtin.Tuple.tupleItemsOf (.ref t) >>= _) _ _ s
  refine wpAny_bind (tupleItemsOf_ ht (wpAny_bind (wpAny_typeOf hTs ?_)))
  rw [if_pos (by decide)]
  refine wpAny_bind (applied_back hs pl ?_)
  show wpAny _ _ (if ((backN items.size lo : Int) - 1 == 0 && (-1 : Int) == 1 && backN items.size lo == items.size) = true then _ else _) _ _ s
  rw [if_neg (by simp), pick_back items _ (backN_le _ _)]
  first
    | exact wpAny_bind (m := Builtin.Tuple.tupleExact _) (wpAny_newObj_type (wpAny_pure ⟨_, rfl, wpAny_pure h⟩) fit)
    | exact wpAny_bind (m := Builtin.Tuple.tupleExact _) (wpAny_newObj_type (wpAny_bind (wpAny_pure (wpAny_pure ⟨_, rfl, wpAny_pure h⟩))) fit)
    | exact wpAny_bind (wpAny_bind (m := Builtin.Tuple.tupleExact _) (wpAny_newObj_type (wpAny_pure (wpAny_pure ⟨_, rfl, wpAny_pure h⟩)) fit))
    | exact wpAny_bind (wpAny_bind (m := Builtin.Tuple.tupleExact _) (wpAny_newObj_type (wpAny_pure ⟨_, rfl, wpAny_pure h⟩) fit))
end
end Dm
end

section
set_option Elab.async false
set_option linter.all false
set_option autoImplicit true
set_option maxRecDepth 100000
set_option maxHeartbeats 1000000
/-! DBack2: x[::-1], x[i::-1], and the place of an item in it. -/
namespace Dm
open PySem PySem.Spec PyProof.Rows L2
theorem backE_some {f : E} {lo : Option E} {r : Env} {d : D} (h : backE f lo r = some d) : ∃ x l, f r = some x ∧ partE lo r = some l ∧ backD x l = some d := by
  simp only [backE, Option.bind_eq_bind, Option.bind_eq_some_iff] at h
  obtain ⟨x, h1, l, h2, h3⟩ := h
  exact ⟨x, l, h1, h2, h3⟩
theorem RpAll.back {K : PySem.W.Frag} {H : Hp} {xs : List V} {ds : List D} (r : RpAll K H xs ds) (o : Option Int) : RpAll K H ((xs.take (backN xs.length o)).reverse) (backL ds o) := by
  rw [backL_eq, r.length]
  exact (r.take _).reverse
theorem Vals.back {xs : List V} {us : List Value} (r : Vals xs us) (k : Nat) : Vals ((xs.take k).reverse) ((us.take k).reverse) := by
  refine Vals.reverse ?_
  induction r generalizing k with
  | nil => rw [List.take_nil, List.take_nil]; exact .nil
  | cons a t ih =>
    cases k with
    | zero => exact .nil
    | succ k => exact .cons a (ih k)
section
variable {X : Cx} {T : List Addr} {e a b c : Expr} {es rest : List Expr} {f g h : E} {fs : List E} {pos p p1 p2 p3 p4 : Pos} {lo : Option Expr} {fl : Option E} {k : Nat}
theorem ev_back {pins : List (Addr × Obj)} {s : Shared} {σ : L2.St} {H : Hp} {S : List Addr} {r : Env} {d : D} (ha : DB X T a f) (hl : DO X T lo fl) (I : Inv X pins σ H s) (eo : EnvOk X.K T S H σ r) (ef : backE f fl r = some d) :
    wpAny (model X.prog X.w) X.A (eval (.Subscript a (.Slice lo none (some (.UnaryOp .USub (.Constant (.int 1) k p1) p2)) p3) pos) X.env)
      (fun v s' => ∃ p H', v = .ref p ∧ Inv X pins σ H' s' ∧ Nxt T H H' ∧ Rp X.K (mns S H') (.ref p) d ∧ ∃ ob, s'.heap.get? p = some ob ∧ ob.dict = none) X.xe s := by
  obtain ⟨x0, l0, e1, e2, e3⟩ := backE_some ef
  refine Subscript_ (thn (ha.pe.run pins s σ H (fun v H' => Nxt T H H' ∧ RpB X.K S H' v x0) I ⟨S, r, x0, eo, e1, fun v H' n rv => ⟨n, rv⟩⟩) fun v s1 ⟨x, H1, I1, r1, n1, rx⟩ => ?_)
  have hst : PO X (some (.UnaryOp .USub (.Constant (.int 1) k p1) p2)) (tPart (tUn (rU fun i => .int (-i)) (tC (.int 1)))) := po_some (pe_un un_neg pe_int)
  refine wpAny_Slice (thn (hl.po.run pins s1 σ H1 (fun o H' => o = l0 ∧ Nxt T H1 H') I1 ⟨S, r, l0, eo.nxt n1, e2, fun H' n => ⟨rfl, n⟩⟩) fun vl s2 ⟨l, H2, I2, pl, el, n2⟩ => ?_)
  subst el
  refine thn (po_none.run pins s2 σ H2 (fun o H3 => o = none ∧ H3 = H2) I2 ⟨rfl, rfl⟩) fun vu s3 ⟨u, H3, I3, pu, eu, e4⟩ => ?_
  subst eu e4
  refine thn (hst.run pins s3 σ H3 (fun o H4 => o = some (-1) ∧ H4 = H3) I3 ⟨1, rfl, -1, rfl, rfl, rfl⟩) fun vs s4 ⟨o, H4, I4, ps, eo4, e5⟩ => ?_
  subst eo4 e5
  cases pu
  cases ps with
  | int i tk =>
  have I5 : Inv X pins σ H4 { s4 with heap := s4.heap.push { cls := .type "slice", data := .fields #[vl, .none, .int (-1) tk] } } := I4.kept (t' := s4.toks) fun b ob q => Heap.get?_push_of_some _ q
  have n12 := n1.trans n2
  have rx2 := RpB.nxt n2 rx
  have t4 : Dm.Tabs T H4 := n2.tabs
  have l4 : Live S H4 := eo.live.ext n12.ext
  unfold backD at e3
  split at e3
  · rename_i ds
    cases e3
    obtain ⟨t, xs, rfl, hx, rr⟩ := rx2.tuple
    cases r1
    obtain ⟨its, rv, ht, hz⟩ := I5.tuple (.of hx)
    have hlen := rv.length
    show wpAny (model X.prog X.w) X.A (subscriptTail a (.Slice lo none (some (.UnaryOp .USub (.Constant (.int 1) k p1) p2)) p3) (.ref t) (.ref s4.heap.objs.size)) _ X.xe _
    refine tail_any (ops := [.ref t, .ref s4.heap.objs.size]) ht.typeIs (PyProof.Rows.slot_tuple_getitem.lookup) ?_ (by with_unfolding_all rfl)
    refine tuple_back ht (Heap.IsSliceOf.new _ vl .none (.int (-1) tk)) pl ?_ (by rw [List.size_toArray]; omega)
    have hn : H4 (s4.heap.push { cls := .type "slice", data := .fields #[vl, .none, .int (-1) tk] }).objs.size = none := I5.hok.fresh (Nat.le_refl _)
    have e6 : (its.toArray.toList.take (backN its.toArray.size l)).reverse = (its.take (backN xs.length l)).reverse := by rw [List.size_toArray, ← hlen]
    obtain ⟨n6, r6⟩ := rp_newtup t4 l4 hn (rr.back l)
    refine ⟨_, _, rfl, I5.laid (t' := s4.toks) (o := .tup ((xs.take (backN xs.length l)).reverse)) (fun b ob q => Heap.get?_push_of_some _ q) (Nat.le_refl _) ?_, n12.trans n6, r6, _, Heap.get?_push_size _ rfl, rfl⟩
    refine ⟨?_, (its.take (backN xs.length l)).reverse, Vals.back rv _, ?_⟩
    · have := backN_le xs.length l
      rw [List.length_reverse, List.length_take]; omega
    · rw [← e6]; exact IsTup.new _ _
  · rename_i ds
    split at e3
    · cases e3
      cases pl
      obtain ⟨t, xs, rfl, hx, rr⟩ := rx2.list
      cases r1
      obtain ⟨its, rv, ht, hz⟩ := I5.list hx
      have hlen := rv.length
      show wpAny (model X.prog X.w) X.A (subscriptTail a (.Slice lo none (some (.UnaryOp .USub (.Constant (.int 1) k p1) p2)) p3) (.ref t) (.ref s4.heap.objs.size)) _ X.xe _
      refine tail_any (ops := [.ref t, .ref s4.heap.objs.size]) ht.isList.typeIs (PySem.slot_list_getitem.lookup) ?_ (by with_unfolding_all rfl)
      refine wpAny_getItem_list_slice ht.isList (Heap.IsSliceOf.new _ .none .none (.int (-1) tk)) .none .none (.int (-1) tk) (by decide) ?_ (by rw [List.size_toArray]; omega)
      rw [PySem.W.krv_pick]
      have hn : H4 (s4.heap.push { cls := .type "slice", data := .fields #[.none, .none, .int (-1) tk] }).objs.size = none := I5.hok.fresh (Nat.le_refl _)
      obtain ⟨n6, o6⟩ := own_newlst t4 l4 hn rr.reverse
      refine ⟨_, _, rfl, I5.laid (t' := s4.toks) (o := .lst xs.reverse) (fun b ob q => Heap.get?_push_of_some _ q) (Nat.le_refl _) ?_, n12.trans n6, own_rp (T := T) l4 hn o6, _, Heap.get?_push_size _ rfl, rfl⟩
      exact ⟨by rw [List.length_reverse]; exact hz, _, 0, Vals.reverse rv, Heap.get?_push_size _ rfl⟩
    · cases e3
  · cases e3
theorem e_back (ha : DB X T a f) (hl : DO X T lo fl) : DE X T (.Subscript a (.Slice lo none (some (.UnaryOp .USub (.Constant (.int 1) k p1) p2)) p3) pos) (backE f fl) :=
  ⟨⟨fun pins s σ H Q I ⟨S, r, d, eo, ef, q⟩ => thn (ev_back ha hl I eo ef) fun v s' ⟨p, H', e, I', n, rp, _⟩ => ⟨.ref p, H', I', e, q _ H' n rp⟩⟩⟩
theorem e_backIx (hu : X.A.units + 100 < cLine) (ha : DB X T a f) (hl : DO X T lo fl) (hb : DE X T b g)
    (hbase : attributeBase (.Subscript a (.Slice lo none (some (.UnaryOp .USub (.Constant (.int 1) k p1) p2)) p3) p4) "index" X.env (eval (.Subscript a (.Slice lo none (some (.UnaryOp .USub (.Constant (.int 1) k p1) p2)) p3) p4) X.env) = eval (.Subscript a (.Slice lo none (some (.UnaryOp .USub (.Constant (.int 1) k p1) p2)) p3) p4) X.env := by rfl)
    (hfew : ((backTo pos (starEach [b] X.env)).all (fun x => !x.1) && (backToKw pos (keywordEach [] X.env)).all (fun x => x.1.isSome) && decide ([b].length + ([] : List Keyword).length + (if ([] : List Keyword).isEmpty then 0 else 1) < 30)) = true := by rfl)
    (hline : (p.endLine == pos.line) = true := by rfl) (hs1 : starEach [b] X.env = (false, eval b X.env) :: starEach [] X.env := by rfl) :
    DE X T (.Call (.Attribute (.Subscript a (.Slice lo none (some (.UnaryOp .USub (.Constant (.int 1) k p1) p2)) p3) p4) "index" p) [b] [] pos) (opE tixD (backE f fl) g) := by
  refine ⟨⟨fun pins s σ H Q I ⟨S, r, d, eo, ef, q⟩ => ?_⟩⟩
  obtain ⟨x, y, e1, e2, e3⟩ := opE_some ef
  unfold tixD at e3
  split at e3
  · rename_i ds
    refine wpAny_Call_method_late hbase hfew hline rfl (thn (ev_back ha hl I eo e1) fun v s1 ⟨p, H1, ev, I1, n1, rp, ob, ho, hod⟩ => ?_)
    subst ev
    obtain ⟨a1, xs, e4, hx, rr⟩ := RpB.tuple (.inl rp)
    cases e4
    obtain ⟨its, rv, ht, hz⟩ := I1.tuple (.of hx)
    refine ⟨"tuple", "tuple.index", PySem.F.plainAttrs_tuple, PySem.F.slot_tuple_index, PySem.F.type_tuple_index, ht.typeIs, fun a2 e5 => by cases e5; exact ⟨ob, ho, hod⟩, ?_⟩
    have hA := (a_cons hb (a_nil (X := X) (T := T)) hs1).pa.run pos pins s1 σ H1 (fun vs H' => ∃ v, vs = [v] ∧ Nxt T H1 H' ∧ Rp X.K (mns S H') v y) I1 ⟨S, r, [y], eo.nxt n1, by simp [argsE, e2], fun vs H' n rs => by
      cases rs with
      | cons r1 r2 => cases r2; exact ⟨_, rfl, n, r1⟩⟩
    rw [hs1] at hA ⊢
    refine Calls.callWith_builtin (by rfl) (Calls.evalArgs_plain ?_)
    refine thn hA fun us s2 ⟨vs, H2, I2, r2, y1, evs, n2, ry⟩ => ?_
    subst evs
    obtain ⟨h1, h2, h3⟩ := indexD_some e3
    rcases h3 with ⟨_, _, z, _⟩ | ⟨ds', j, z, h4, h5⟩
    · cases z
    · cases z
      subst h5
      exact mt_indexTD hu pins s2 σ H2 (.ref p) [y1] (.ref p) us Q I2 rfl r2 ⟨p, y1, y, ds, j, rfl, rfl, RpB.dp (.inl (rp.nxt n2)) h1, RpB.dp (.inl ry) h2, h1, h2, h4, q _ H2 (n1.trans n2) (.int _)⟩
  · cases e3
end
end Dm
end

section
set_option Elab.async false
set_option linter.all false
set_option autoImplicit true
set_option maxRecDepth 100000
set_option maxHeartbeats 1000000
/-! DSort: sorted. -/
namespace PySem.W
open PySem PySem.Calls PyProof.Rows SeqAt
section
variable {prog : Program} {w : World} {A : Around} {E : Value → Shared → Prop} {s : Shared}
theorem dm_tuple_lt {Q : Value → Shared → Prop} {l b : Addr} {items items2 : Array Value} {e r : Nat → Bool} (hl : s.heap.IsTuple l items) (hb : s.heap.IsTuple b items2)
    (he : ∀ j (h1 : j < items.size) (h2 : j < items2.size), EqAt A.in1 s items[j] items2[j] (e j)) (hr : ∀ j (h1 : j < items.size) (h2 : j < items2.size), e j = false → SeqAt.RcLt A.in1 s items[j] items2[j] (r j))
    (h : Q (.bool (SeqAt.firstLt e r (decide (items.size < items2.size)) (List.range (min items.size items2.size)))) s) : wpAny (model prog w) A (call (.builtin "tuple.__lt__") [.ref l, .ref b]) Q E s := by
  obtain ⟨⟨cls, dd, data, sl⟩, ho, hc, n, hd⟩ := id hl
  obtain ⟨⟨cls2, dd2, data2, sl2⟩, ho2, hc2, n2, hd2⟩ := id hb
  simp only at hc hd hc2 hd2
  subst hc hd hc2 hd2
  exact call_meets PySem.F.slot_tuple_lt ⟨_, ho, rfl⟩ PySem.F.entry_tuple_lt (PySem.F.args_tuple_lt_2 _ _) (SeqAt.tuple_ltAt l b items items2 n n2 dd dd2 sl sl2 e r) ⟨ho, ho2, he, hr, h⟩
/-- one tuple against another by its type's own order -/
theorem dm_one_tuple {xs ys : List PyData} {a b : Value} {as bs : List Addr} {Q : Bool → Shared → Prop} (ra : Reads s.heap a (.tuple xs) as) (rb : Reads s.heap b (.tuple ys) bs) (h : alike (.tuple xs) (.tuple ys) = true)
    (hu : A.units + min (PyData.tuple xs).depth (PyData.tuple ys).depth < cLine) (hq : Q (dataLt (.tuple xs) (.tuple ys)) s) : wpAny (model prog w) A (oneLt' true a b) Q E s := by
  have hal : alikeAll xs ys = true := by simpa [alike] using h
  cases ra with
  | @tuple l o vs n _ as₁ h1 h2 h3 h4 =>
    cases rb with
    | @tuple l' o' vs' n' _ bs₁ k1 k2 k3 k4 =>
      have n1 : vs.size = xs.length := by simpa using SeqAt.ReadsAll.length _ _ _ h4
      have n2 : vs'.size = ys.length := by simpa using SeqAt.ReadsAll.length _ _ _ k4
      rw [dataLt_tuple, ← firstLt_toks xs ys hal, ← n1, ← n2] at hq
      rw [oneLt'_eq]
      simp only [if_true]
      refine wpAny_bind (wpAny_cRoomFor (SeqAt.room_here hu) ?_)
      refine wpAny_bind (wpAny_callSpecialIfBound?_slot (T := "tuple") ⟨_, h1, h2⟩ PySem.F.slot_tuple_lt (dm_tuple_lt (e := pairEq xs ys) (r := fun j => dataLt (xs.getD j .none) (ys.getD j .none)) ⟨_, h1, h2, _, h3⟩ ⟨_, k1, k2, _, k3⟩ (fun j j1 j2 => ?_) (fun j j1 j2 hj => ?_) ?_))
      · have := eqAt_alikeAll xs ys A.in1 s vs.toList vs'.toList _ _ h4 k4 hal (SeqAt.room_in hu) j (by simpa using j1) (by simpa using j2)
        simpa using this
      · have := rcLt_alikeAll xs ys A.in1 s vs.toList vs'.toList _ _ h4 k4 hal (SeqAt.room_in hu) j (by simpa using j1) (by simpa using j2) hj
        simpa using this
      · exact wpAny_truthy_bool hq
theorem dm_mapM {α β : Type} {f : α → Sem β} {g : α → β} : ∀ (l : List α) {Q : List β → Shared → Prop}, (∀ v ∈ l, ∀ (Q' : β → Shared → Prop), Q' (g v) s → wpAny (model prog w) A (f v) Q' E s) → Q (l.map g) s → wpAny (model prog w) A (l.mapM f) Q E s
  | [], _, _, h => by rw [List.mapM_nil]; exact wpAny_pure h
  | x :: l, Q, hf, h => by
    rw [List.mapM_cons]
    exact wpAny_bind (hf x (.head _) _ (wpAny_bind (dm_mapM l (Q := fun bs s' => wpAny (model prog w) A (pure (g x :: bs)) Q E s') (fun v hv => hf v (.tail _ hv)) (wpAny_pure h))))
/-- the first item of a tuple at the heap -/
def dm_first (h : Heap) : Value → Option Value
  | .ref a => match h.get? a with
    | some o => match o.data with
      | .seq xs _ => xs[0]?
      | _ => none
    | none => none
  | _ => none
theorem dm_first_eq {h : Heap} {a : Addr} {o : Obj} {xs : Array Value} {n : Nat} (e : h.get? a = some o) (d : o.data = .seq xs n) : dm_first h (.ref a) = xs[0]? := by
  simp only [dm_first, e, d]
/-- keys that are tuples, the first one empty -/
theorem dm_kind {vs : List Value} {ds : List PyData} {Q : SortKind → Shared → Prop} (h2 : 2 ≤ vs.length) (e : EachIs (fun v d => ∃ as, Reads s.heap v d as) vs ds) (ht : ∀ d, d ∈ ds → ∃ xs, d = .tuple xs) (h0 : ∃ r, ds = .tuple [] :: r) (h : Q oneType' s) :
    wpAny (model prog w) A (keyKind' vs.toArray) Q E s := by
  have tup : ∀ v ∈ vs, ∃ a o xs n, v = Value.ref a ∧ s.heap.get? a = some o ∧ o.cls = .type "tuple" ∧ o.data = .seq xs n := fun v hv => by
    obtain ⟨d, hd, as, r⟩ := e.left v hv
    obtain ⟨xs, rfl⟩ := ht d hd
    cases r with
    | @tuple l o vs n _ _ h1 h2 h3 h4 => exact ⟨l, o, vs, n, rfl, h1, h2, h3⟩
  obtain ⟨r, rfl⟩ := h0
  cases e with
  | @cons v _ vs' _ hv e' =>
  obtain ⟨as, rv⟩ := hv
  have first : dm_first s.heap v = none := by
    cases rv with
    | @tuple l o vs n _ _ h1 h2 h3 h4 =>
      have : vs.toList = [] := by
        generalize hz : vs.toList = zs at h4
        cases h4; rfl
      rw [dm_first_eq h1 h3]
      have hv : vs = #[] := by rw [← Array.toList_eq_nil_iff]; exact this
      rw [hv]; rfl
  rw [keyKind'_eq, List.mapM_toArray, map_eq_pure_bind]
  refine wpAny_bind (wpAny_bind (dm_mapM (g := dm_first s.heap) _ (fun u hu Q' hq => ?_) (wpAny_pure ?_)))
  · obtain ⟨a, o, xs, n, rfl, o1, o2, o3⟩ := tup u hu
    rw [kas_first_eq]
    refine wpAny_bind (wpAny_typeOf (T := "tuple") ⟨o, o1, o2⟩ ?_)
    rw [if_neg (by decide)]
    refine wpAny_bind (wpAny_listItems o1 o3 (wpAny_pure ?_))
    rw [dm_first_eq o1 o3] at hq
    exact hq
  · rw [if_neg, if_neg]
    · rw [oneTypeOnly'_eq, List.mapM_toArray, map_eq_pure_bind]
      refine wpAny_bind (wpAny_bind (wpAny_bind (dm_mapM (g := fun _ => Value.type "tuple") _ (fun u hu Q' hq => ?_) (wpAny_pure ?_))))
      · obtain ⟨a, o, xs, n, rfl, o1, o2, o3⟩ := tup u hu
        exact wpAny_typeOf (T := "tuple") ⟨o, o1, o2⟩ hq
      · have hall : ((List.map (fun _ => Value.type "tuple") (v :: vs')).toArray.all fun x => x == Value.type "tuple") = true := by
          simp only [List.all_toArray, List.all_map, List.all_eq_true]
          intro _ _
          exact beq_self_eq_true _
        have hz : (List.map (fun _ => Value.type "tuple") (v :: vs')).toArray[0]? = some (Value.type "tuple") := by simp
        rw [hz]
        simp only [hall, if_true]
        exact wpAny_pure (wpAny_pure h)
    · simp [first]
    · simp [first]
theorem dm_sorts {vs : List Value} {ds : List PyData} (e : EachIs (fun v d => ∃ as, Reads s.heap v d as) vs ds) (hal : AllAlike ds) (ht : ∀ d, d ∈ ds → ∃ xs, d = .tuple xs) (h0 : ∃ r, ds = .tuple [] :: r) (hu : ∀ d, d ∈ ds → A.units + d.depth < cLine) : SortsAt prog w A s (dataKind s.heap ds) vs := by
  refine ⟨fun v hv => ?_, oneType', ?_, fun h2 E Q hq => dm_kind h2 e ht h0 hq⟩
  · obtain ⟨d, hd, as, r⟩ := e.left v hv
    exact ⟨_, dataKind_some hal hd r⟩
  · intro E x y a b Q ha hb hq
    obtain ⟨d, as, hd, ra, rfl⟩ := dataKind_inv ha
    obtain ⟨d', as', hd', rb, rfl⟩ := dataKind_inv hb
    rw [keyLt'_oneType]
    have hdd := hal d hd d' hd'
    obtain ⟨xs, rfl⟩ := ht d hd
    obtain ⟨ys, rfl⟩ := ht d' hd'
    exact dm_one_tuple ra rb hdd (Nat.lt_of_le_of_lt (Nat.add_le_add_left (Nat.min_le_left _ _) _) (hu _ hd)) hq
theorem dm_sorted {β : Type} {vs : List Value} {bs : List β} {enc : β → PyData} {R : Value → β → Prop} {l : Addr} {Q : Value → Shared → Prop} (hl : s.heap.IsList l vs.toArray) (e : EachIs R vs bs) (er : EachIs (fun v b => ∃ as, Reads s.heap v (enc b) as) vs bs) (hal : AllAlike (bs.map enc))
    (ht : ∀ d, d ∈ bs.map enc → ∃ xs, d = .tuple xs) (h0 : ∃ r, bs.map enc = .tuple [] :: r) (hL : bs.length ≤ sizeLine) (hu : ∀ b, b ∈ bs → A.units + 2 + (enc b).depth < cLine)
    (h : ∀ out, out.length = bs.length → EachIs R out (bs.mergeSort (dataLe false enc)) → Q (.ref (s.heap.objs.size + 1)) { s with heap := sortedAll s.heap vs (List.toArray out) }) : wpAny (model prog w) A (call (.builtin "sorted") [.ref l]) Q E s := by
  have er' : EachIs (fun v b => ∃ as, Reads (sortingHeap (copyHeap s.heap vs) (s.heap.objs.size + 1) vs) v (enc b) as) vs bs := er.mono fun _ _ ⟨as, r⟩ => ⟨as, PyProof.Rows.Reads.keeps (fun _ _ => sorting_copy_old) r⟩
  have so := dm_sorts (prog := prog) (w := w) (A := A.in1.in1) (s := { s with heap := sortingHeap (copyHeap s.heap vs) (s.heap.objs.size + 1) vs }) (each_map (R := fun v d => ∃ as, Reads (sortingHeap (copyHeap s.heap vs) (s.heap.objs.size + 1) vs) v d as) enc er') hal ht h0 (bound_map hu)
  exact sorted_vals hl so (by rw [e.length]; exact hL) (h _ (by rw [sortVals_length false rfl]; exact e.length) (sortVals_data false e er' hal))
end
end PySem.W
end

section
set_option Elab.async false
set_option linter.all false
set_option autoImplicit true
set_option maxRecDepth 100000
set_option maxHeartbeats 1000000
/-! DSort2: sorted(xs), xs a list. -/
namespace Dm
open PySem PySem.Spec PyProof.Rows L2
/-- a value and the datum that it stands for -/
def Pr (K : PySem.W.Frag) (H : Hp) (v : Value) (b : V × D) : Prop := RelV b.1 v ∧ Rp K H b.1 b.2
theorem each_pr {K : PySem.W.Frag} {H : Hp} : ∀ {xs : List V} {us : List Value} {ds : List D}, Vals xs us → RpAll K H xs ds → PySem.W.EachIs (Pr K H) us (xs.zip ds)
  | _, _, _, .nil, .nil => .nil
  | _, _, _, .cons a t, .cons b u => .cons ⟨a, b⟩ (each_pr t u)
theorem pr_each {K : PySem.W.Frag} {H : Hp} : ∀ {us : List Value} {bs : List (V × D)}, PySem.W.EachIs (Pr K H) us bs → Vals (bs.map (·.1)) us ∧ RpAll K H (bs.map (·.1)) (bs.map (·.2))
  | _, _, .nil => ⟨.nil, .nil⟩
  | _, _, .cons a t => ⟨.cons a.1 (pr_each t).1, .cons a.2 (pr_each t).2⟩
theorem zip_snd {α β : Type} : ∀ {xs : List α} {ds : List β}, xs.length = ds.length → (xs.zip ds).map (·.2) = ds
  | [], [], _ => rfl
  | _ :: _, _ :: _, h => by rw [List.zip_cons_cons, List.map_cons, zip_snd (Nat.succ.inj h)]
  | [], _ :: _, h => by cases h
  | _ :: _, [], h => by cases h
theorem reads_zip {h : Heap} : ∀ {us : List Value} {ds : List D} {as : List Addr} {xs : List V}, PySem.W.EachIs (fun v d => ∃ as, Reads h v d as) us ds → xs.length = ds.length → PySem.W.EachIs (fun v (b : V × D) => ∃ as, Reads h v b.2 as) us (xs.zip ds)
  | _, _, _, [], .nil, _ => .nil
  | _, _, as, x :: xs, .cons a t, h => .cons a (reads_zip (as := as) t (Nat.succ.inj h))
  | _, _, _, [], .cons _ _, h => by cases h
theorem plainAll_lay : ∀ {ds : List D}, (∀ d ∈ ds, plain d = true) → PyData.canLayAll0 ds = true
  | [], _ => by simp [PyData.canLayAll0]
  | d :: ds, h => by
    rw [PyData.canLayAll0, plain_lay (h d List.mem_cons_self), plainAll_lay fun x hx => h x (List.mem_cons_of_mem _ hx)]
    rfl
theorem sortOk_all {ds : List D} (h : sortOk ds = true) : (∀ a ∈ ds, ∀ b ∈ ds, PySem.W.alike a b = true) ∧ (∀ a ∈ ds, a ≠ .none) ∧ ∀ a ∈ ds, plain a = true := by
  unfold sortOk at h
  rw [List.all_eq_true] at h
  refine ⟨fun a ha b hb => ?_, fun a ha z => ?_, fun a ha => ?_⟩
  · have := h a ha
    simp only [Bool.and_eq_true, List.all_eq_true] at this
    exact this.1 b hb
  · have := h a ha
    simp only [Bool.and_eq_true] at this
    rw [z] at this
    exact absurd this.2.1 (by simp [isNone])
  · have := h a ha
    simp only [Bool.and_eq_true] at this
    exact this.2.2
/-- the two kinds of rows that are sorted -/
theorem headT_or {ds : List D} (hs : sortOk ds = true) (h : headT ds = true) : PySem.W.Sortable ds ∨ ((∀ d, d ∈ ds → ∃ xs, d = .tuple xs) ∧ ∃ r, ds = .tuple [] :: r) := by
  obtain ⟨hal, hn, _⟩ := sortOk_all hs
  have same : ∀ a ∈ ds, ∀ b ∈ ds, ∀ xs, a = .tuple xs → ∃ ys, b = .tuple ys := fun a ha b hb xs e => by
    have := hal a ha b hb
    rw [e] at this
    cases b <;> first | exact ⟨_, rfl⟩ | exact absurd this (by simp [PySem.W.alike])
  unfold headT at h
  rcases Bool.or_eq_true_iff.mp h with h | h
  · left
    rw [List.all_eq_true] at h
    by_cases ht : ∃ a ∈ ds, ∃ xs, a = .tuple xs
    · obtain ⟨a, ha, xs, e⟩ := ht
      refine .inl fun d hd => ?_
      obtain ⟨ys, rfl⟩ := same a ha d hd xs e
      cases ys with
      | nil => exact absurd (h _ hd) (by simp [emptyT])
      | cons y ys => exact ⟨y, ys, rfl⟩
    · exact .inr fun d hd => ⟨hn d hd, fun xs e => ht ⟨d, hd, xs, e⟩⟩
  · cases ds with
    | nil => exact .inl (.inl fun d hd => by cases hd)
    | cons d0 r =>
      have e0 : d0 = .tuple [] := by
        simp only at h
        unfold emptyT at h
        split at h
        · rfl
        · cases h
      subst e0
      exact .inr ⟨fun d hd => same _ List.mem_cons_self d hd [] rfl, r, rfl⟩
section
variable {X : Cx} {T : List Addr} {e a b c : Expr} {es rest : List Expr} {f g h : E} {fs : List E} {pos p p2 pos2 : Pos}
theorem cd_sort (hu : X.A.units + 100 < cLine) : CallR X (.builtin "sorted") (rF X.K T (on1 sortLD)) := by
  intro pins s σ H xs us Q I rx hh
  obtain ⟨S, d, x, r, t, l, rfl, hx, eo, q⟩ := rF_one hh
  unfold sortLD at eo
  split at eo
  · rename_i ds
    simp only [Option.map_eq_some_iff] at eo
    obtain ⟨zs, h1, rfl⟩ := eo
    unfold sortL at h1
    split at h1
    · rename_i hb
      cases h1
      simp only [Bool.and_eq_true] at hb
      obtain ⟨⟨hs, ht⟩, hz⟩ := hb
      have hz := lenOk_le hz
      obtain ⟨hal, hn, hp⟩ := sortOk_all hs
      obtain ⟨a, ys, rfl, hl, rr⟩ := hx.list
      obtain ⟨u, rfl, ru⟩ := rx.one
      cases ru
      obtain ⟨its, rv, pl, hlen⟩ := I.list hl
      have hyl := rr.length
      obtain ⟨as, h4⟩ := Dp.readsAll I ds ys its (RpAll.dp (rr.le le_full) (plainAll_lay hp)) rv
      have er0 : PySem.W.EachIs (fun v d => ∃ as, Reads s.heap v d as) its ds := by
        have := PySem.W.readsAll_each (h := s.heap) (fun d : D => d) (vs := its) (bs := ds) (as := as) (by rw [List.map_id']; exact h4)
        exact this
      have er := reads_zip (as := as) (xs := ys) er0 hyl
      have ep := each_pr (H := mns S H) rv rr
      have em : (ys.zip ds).map (·.2) = ds := zip_snd hyl
      have hbl : (ys.zip ds).length = ds.length := by rw [List.length_zip]; omega
      have fin : ∀ out : List Value, out.length = (ys.zip ds).length → PySem.W.EachIs (Pr X.K (mns S H)) out ((ys.zip ds).mergeSort (PySem.W.dataLe false (·.2))) → EP X pins σ Q (.ref (s.heap.objs.size + 1)) { s with heap := sortedAll s.heap its (List.toArray out) } := fun out ho e => by
        obtain ⟨rv2, rr2⟩ := pr_each e
        have es : ((ys.zip ds).mergeSort (PySem.W.dataLe false (·.2))).map (·.2) = ds.mergeSort leB := by
          rw [List.map_mergeSort (r := PySem.W.dataLe false (fun b : V × D => b.2)) (s := leB) (fun a _ b _ => by rw [PySem.W.dataLe_eq]; rfl), em]
        rw [es] at rr2
        have hn : H (s.heap.objs.size + 1) = none := I.hok.fresh (Nat.le_succ _)
        obtain ⟨c, hc⟩ := sortedAll_at s.heap its (List.toArray out)
        obtain ⟨n1, o1⟩ := own_newlst t l hn rr2
        refine ⟨.ref (s.heap.objs.size + 1), _, I.laid (t' := s.toks) (a := s.heap.objs.size + 1) (o := .lst (((ys.zip ds).mergeSort (PySem.W.dataLe false (·.2))).map (·.1))) (fun b o e => sortedAll_old e) (Nat.le_succ _) ⟨?_, out, c, rv2, hc⟩, rfl, q _ _ hn n1 o1⟩
        have := rv2.length
        rw [this, ho, hbl]; exact hz
      have hu' : ∀ b, b ∈ ys.zip ds → X.A.units + 2 + b.2.depth < cLine := fun b hb => by
        have : b.2 ∈ ds := by rw [← em]; exact List.mem_map_of_mem hb
        have := plain_depth (hp _ this)
        omega
      have hal' : PySem.W.AllAlike ((ys.zip ds).map (·.2)) := by rw [em]; exact hal
      rcases headT_or hs ht with hk | ⟨hk1, hk2⟩
      · exact PySem.W.sorted_data (enc := (·.2)) (R := Pr X.K (mns S H)) pl.isList ep er hal' (by rw [em]; exact hk) (by rw [hbl]; exact hz) hu' fin
      · exact PySem.W.dm_sorted (enc := (·.2)) (R := Pr X.K (mns S H)) pl.isList ep er hal' (by rw [em]; exact hk1) (by rw [em]; exact hk2) (by rw [hbl]; exact hz) hu' fin
    · cases h1
  · cases eo
theorem f_sort (hu : X.A.units + 100 < cLine) (hm : X.mg "sorted" = none) (ha : DB X T a f) (hg : Gl X "sorted" := by rfl) (he : starEach [a] X.env = (false, eval a X.env) :: starEach [] X.env := by rfl) : DF X T (.Call (.Name "sorted" p) [a] [] pos) (unE sortLD f) :=
  (f_bi (cd_sort hu) hm (by decide +kernel) (b_cons ha b_nil he) hg (by decide) (by decide) he).of fun _ _ h => un_on1 h
end
end Dm
end

section
set_option Elab.async false
set_option linter.all false
set_option maxRecDepth 100000
set_option maxHeartbeats 3200000
/-! DSet: sorted(set(xs)), len(set(xs)) of a list of ints. -/
namespace L2
open PySem PySem.Spec PyProof.Rows
section
variable {P : Program} {w : World} {A : Around} {E : Value → Shared → Prop} {s : Shared}
abbrev dmNew (w : World) : Obj := { cls := .type "set", dict := none, data := .set #[] 0 (.fresh 0 0 (!w.params.followText "set-order")) }
theorem dm_set_list {l : Addr} {items : Array Value} (ns : List Int) {Q : Value → Shared → Prop} (hh : A.handled = none) (hl : s.heap.IsList l items) (hit : IntsAre items.toList ns) (hb : ns.length + 1 < scanBound)
    (h : ∀ (h' : Heap) (tk c : Nat), SetR w h' s.heap.objs.size (fun j => decide (j ∈ ns)) c → c ≤ ns.length → (∀ b o, s.heap.get? b = some o → h'.get? b = some o) → Q (.ref s.heap.objs.size) { s with heap := h', toks := tk }) : wpAny (model P w) A (call (.type "set") [.ref l]) Q E s := by
  have hsz : items.size = ns.length := by have q := IntsAre.length hit; rw [Array.length_toList] at q; exact q
  obtain ⟨c0, tl0, mro0⟩ := F.called_set.mro
  have made0 := F.called_set.made; have sub0 := F.called_set.sub
  refine wpAny_call (codeAny_of_tree ?_); show wpAny _ _ (callAny (.type "set") _) _ _ _
  refine wpAny_pure ⟨Code.quiet_builtin _ (by decide +kernel), codeAny_builtin F.entry_type_call ?_⟩; rw [Around.under_plain (weight_type_call_type "set" [.ref l] []) rfl]
  have nt0 := F.called_set.notType; have cc0 := F.called_set.canCreate; have tc0 := F.typeCall_set_1 (.ref l)
  repeat (any_goals (first | assumption | wp_step))
  refine codeAny_mono (code_set_led1 (.ref l) (E := E) (Q₁ := fun ob t1 => ob = .ref s.heap.objs.size ∧ t1 = { s with heap := s.heap.push (dmNew w) }) ⟨rfl, rfl⟩) fun r t1 hr => ?_
  cases r with
  | error e => exact hr
  | ok fl =>
    cases fl with
    | ret ob =>
      obtain ⟨rfl, rfl⟩ := hr
      have kS : (s.heap.push (dmNew w)).get? s.heap.objs.size = some (dmNew w) := Heap.get?_push_size _ rfl
      have kT : Shared.TypeIs { s with heap := s.heap.push (dmNew w) } (.ref s.heap.objs.size) "set" := ⟨_, kS, rfl⟩
      have li0 := F.called_set.init.lookup; have bi0 := F.called_set.init.bind (.ref s.heap.objs.size)
      repeat (any_goals (first | assumption | wp_step))
      refine codeAny_mono (codeAny_call_builtin (R := wants (fun r t2 => r = .none ∧ ∃ h' tk c, t2 = { s with heap := h', toks := tk } ∧ SetR w h' s.heap.objs.size (fun j => decide (j ∈ ns)) c ∧ c ≤ ns.length ∧ (∀ b o, s.heap.get? b = some o → h'.get? b = some o)) E) F.called_set.init.plain F.entry_set_init (check_set_init_1 kT ?_)) fun r2 t2 hr2 => ?_
      · obtain ⟨⟨kc, kd, kdt, ksl⟩, hol, hcl, ne, hdl⟩ := hl
        simp only at hcl hdl; subst hcl; subst hdl
        have hol' : (s.heap.push (dmNew w)).get? l = some { cls := .type "list", dict := kd, data := .seq items ne, slots := ksl } := Heap.get?_push_of_some _ hol
        have s1 := F.sub_list_set; have s2 := F.sub_list_frozenset
        have nd0 : (Value.type "list" == Value.type "dict") = false := by decide
        have kl : (s.heap.push (dmNew w)).IsList l items := ⟨_, hol', rfl, ne, rfl⟩
        unfold Builtin.«set.__init__» noKeywords Builtin.Frozenset.updateFrom
        generalize hPI : pyIter = PI
        wp_walk
        subst hPI
        refine wpAny_pyIter_list kl (wpAny_bind (wpAny_runValue ?_))
        have ltS : l < s.heap.objs.size := Heap.lt_size hol
        have hd3 : A.in1.in1.in1.handled = none := by simp [hh]
        have nI : l ≠ (s.heap.push (dmNew w)).objs.size := by rw [Heap.size_push]; exact Nat.ne_of_lt (Nat.lt_succ_of_lt ltS)
        have nS : s.heap.objs.size ∉ [(s.heap.push (dmNew w)).objs.size, l] := by
          rw [Heap.size_push]; simp only [List.mem_cons, List.mem_singleton, List.not_mem_nil, or_false, not_or]; exact ⟨Nat.ne_of_lt (Nat.lt_succ_self _), Nat.ne_of_gt ltS⟩
        have vals : ∀ (i : Nat) (v : Value), items[i]? = some v → ∃ k t, ns[i]? = some k ∧ v = .int k t := fun i v hv => by
          have hi : i < ns.length := by rw [← hsz]; exact (Array.getElem?_eq_some_iff.mp hv).1
          obtain ⟨t, e⟩ := PyProof.Rows.IntsAre.int_at hit i v (by rw [Array.getElem?_toList]; exact hv)
          exact ⟨ns[i], t, List.getElem?_eq_getElem hi, by rw [e, List.getD_eq_getElem?_getD, List.getElem?_eq_getElem hi]; rfl⟩
        refine set_update_ints ((Walks.list hd3 _ l nI items).toS) s.heap.objs.size nS ns hsz hb vals (items.size - 0) 0 _ (by omega) (Nat.zero_le _) ⟨⟨_, Heap.get?_push_size _ rfl, rfl, rfl⟩, (kl.push _)⟩ ?a0 ?a1
        case a0 => exact ⟨0, Nat.le_refl 0, setR_new_at (Heap.get?_push_of_some _ kS)⟩
        case a1 =>
          intro t' c' hm hc' hS'
          obtain ⟨h', g2, d', tk', os'⟩ := t'
          cases (show g2 = s.gens from hm.gens)
          cases (show d' = s.drawn from hm.drawn)
          cases (show os' = s.os from hm.os)
          show wpAny _ _ _ _ _ _
          refine wpAny_pure ?_; show wpAny _ _ (ret Value.none) _ _ _
          rw [hsz] at hc'
          refine wpAny_pure ⟨rfl, h', tk', c', rfl, hS', hc', fun b o e => ?_⟩
          have b0 : b < s.heap.objs.size := Heap.lt_size e
          have b1 : b ≠ (s.heap.push (dmNew w)).objs.size := by rw [Heap.size_push]; exact Nat.ne_of_lt (Nat.lt_succ_of_lt b0)
          refine hm.heap b o ?_ (Heap.get?_push_of_some _ (Heap.get?_push_of_some _ e))
          simp only [List.mem_cons, List.mem_singleton, List.not_mem_nil, or_false, not_or]; exact ⟨Nat.ne_of_lt b0, b1⟩
      · cases r2 with
        | error e => exact hr2
        | ok fl2 =>
          cases fl2 with
          | ret r =>
            obtain ⟨rfl, h', tk, c', rfl, hS', hc', hk'⟩ := hr2
            repeat (any_goals (first | assumption | wp_step))
            exact h _ _ _ hS' hc' hk'
          | _ => exact hr2.elim
    | _ => exact hr.elim
end
end L2
end

section
set_option Elab.async false
set_option linter.all false
set_option autoImplicit true
set_option maxRecDepth 100000
set_option maxHeartbeats 1000000
/-! DFun3: sorted and len of a set, sorted of a dict, dict comprehensions, a new dict, tuples repeated. -/
namespace Dm
open PySem PySem.Spec PyProof.Rows L2
/-! ### rows of ints in order -/
theorem le_total_int : ∀ a b : Int, (decide (a ≤ b) || decide (b ≤ a)) = true := fun a b => by
  rcases Int.le_total a b with h | h <;> simp [h]
theorem le_trans_int : ∀ a b c : Int, decide (a ≤ b) = true → decide (b ≤ c) = true → decide (a ≤ c) = true := fun a b c h1 h2 => by
  simp at h1 h2 ⊢; omega
theorem eq_of_perm_le : ∀ {l1 l2 : List Int}, l1.Perm l2 → l1.Pairwise (· ≤ ·) → l2.Pairwise (· ≤ ·) → l1 = l2
  | [], l2, p, _, _ => by simpa using p.symm.eq_nil
  | a :: l1, [], p, _, _ => by simpa using p.eq_nil
  | a :: l1, b :: l2, p, s1, s2 => by
    obtain ⟨h1, t1⟩ := List.pairwise_cons.mp s1
    obtain ⟨h2, t2⟩ := List.pairwise_cons.mp s2
    have e : a = b := by
      have m1 : a ∈ b :: l2 := p.subset List.mem_cons_self
      have m2 : b ∈ a :: l1 := p.symm.subset List.mem_cons_self
      rcases List.mem_cons.mp m1 with e | m1
      · exact e
      · rcases List.mem_cons.mp m2 with e | m2
        · exact e.symm
        · have := h2 a m1
          have := h1 b m2
          omega
    subst e
    rw [eq_of_perm_le (List.Perm.cons_inv p) t1 t2]
theorem dedupI_mem {x : Int} : ∀ {xs : List Int}, x ∈ dedupI xs ↔ x ∈ xs
  | [] => Iff.rfl
  | y :: ys => by
    unfold dedupI
    split
    · rename_i h
      rw [dedupI_mem, List.mem_cons]
      exact ⟨.inr, fun z => z.elim (fun e => e ▸ h) id⟩
    · rw [List.mem_cons, List.mem_cons, dedupI_mem]
theorem dedupI_nodup : ∀ xs : List Int, (dedupI xs).Nodup
  | [] => List.nodup_nil
  | y :: ys => by
    unfold dedupI
    split
    · exact dedupI_nodup ys
    · rename_i h
      exact List.nodup_cons.mpr ⟨fun z => h (dedupI_mem.mp z), dedupI_nodup ys⟩
theorem sortI_pair (ns : List Int) : (ns.mergeSort fun a b => decide (a ≤ b)).Pairwise (· ≤ ·) := by
  have := List.pairwise_mergeSort (le := fun a b : Int => decide (a ≤ b)) (fun a b c => le_trans_int a b c) (fun a b => le_total_int a b) ns
  exact this.imp fun h => by simpa using h
theorem lt_nodup : ∀ {ms : List Int}, ms.Pairwise (· < ·) → ms.Nodup
  | [], _ => List.nodup_nil
  | a :: ms, h => by
    obtain ⟨h1, h2⟩ := List.pairwise_cons.mp h
    exact List.nodup_cons.mpr ⟨fun z => absurd (h1 a z) (Int.lt_irrefl _), lt_nodup h2⟩
theorem perm_of_mem : ∀ {l1 l2 : List Int}, l1.Nodup → l2.Nodup → (∀ k, k ∈ l1 ↔ k ∈ l2) → l1.Perm l2 := fun {l1 l2} n1 n2 h => by
  rw [List.perm_iff_count]
  intro a
  by_cases ha : a ∈ l1
  · have hb := (h a).mp ha
    rw [List.Nodup.count n1, List.Nodup.count n2, if_pos ha, if_pos hb]
  · have hb := fun z => ha ((h a).mpr z)
    rw [List.count_eq_zero_of_not_mem ha, List.count_eq_zero_of_not_mem hb]
theorem sorted_set_eq {ms ns : List Int} (h : ms.Pairwise (· < ·)) (hm : ∀ k, k ∈ ms ↔ k ∈ ns) : ms = (dedupI ns).mergeSort fun a b => decide (a ≤ b) := by
  refine eq_of_perm_le ?_ (h.imp fun z => Int.le_of_lt z) (sortI_pair _)
  refine (perm_of_mem (lt_nodup h) (dedupI_nodup ns) fun k => (hm k).trans dedupI_mem.symm).trans (List.mergeSort_perm _ _).symm
theorem rpAll_ints {K : PySem.W.Frag} {H : Hp} (ns : List Int) : RpAll K H (ns.map V.int) (ns.map PyData.int) := RpAll.ints ns
section
variable {X : Cx} {T : List Addr} {e a b c : Expr} {es rest : List Expr} {f g h : E} {fs : List E} {pos p p2 q2 : Pos}
theorem sortSetD_some {d r : D} (h : sortSetD d = some r) : ∃ ds ns, d = .list ds ∧ intsOf ds = some ns ∧ ns.length < 4000 ∧ (dedupI ns).length < 64 ∧ r = .list (((dedupI ns).mergeSort fun a b => decide (a ≤ b)).map .int) := by
  unfold sortSetD at h
  split at h
  · split at h
    · rename_i ns hns
      split at h
      · rename_i hb
        simp only [Bool.and_eq_true, decide_eq_true_eq] at hb
        exact ⟨_, ns, rfl, hns, hb.1, hb.2, (Option.some.inj h).symm⟩
      · cases h
    · cases h
  · cases h
theorem intsOf_len {ds : List D} : ∀ {ns : List Int}, intsOf ds = some ns → ns.length = ds.length := by
  induction ds with
  | nil => intro ns h; simp [intsOf] at h; subst h; rfl
  | cons d ds ih =>
    intro ns h
    cases d with
    | int i =>
      simp only [intsOf, Option.map_eq_some_iff] at h
      obtain ⟨ms, h1, rfl⟩ := h
      simp [ih h1]
    | _ => simp [intsOf] at h
theorem vals_intsAre : ∀ {us : List Value} {ns : List Int}, IntsAre us ns → Vals (ns.map V.int) us
  | _, _, .nil => .nil
  | _, _, .cons n t h => .cons ⟨t, rfl⟩ (vals_intsAre h)
/-- a new list at the end of a call that may have drawn -/
theorem inv_newL {pins : List (Addr × Obj)} {s s' : Shared} {σ : L2.St} {H : Hp} {p' : Addr} {xs : List V} {us : List Value} {n : Nat} (I : Inv X pins σ H s) (hk : ∀ b o, s.heap.get? b = some o → s'.heap.get? b = some o) (hg : s'.gens = s.gens) (ho : s'.os = s.os) (hp : s.heap.objs.size ≤ p')
    (hz : xs.length ≤ sizeLine) (rv : Vals xs us) (e : s'.heap.get? p' = some { cls := .type "list", data := .seq us.toArray n }) : Inv X pins σ (upd H p' (.lst xs)) s' :=
  I.call' (ch := []) ho (Un.laid hk hp (I.hok.fresh hp)) (I.hok.laid hk hp ⟨hz, us, n, rv, e⟩) (by rw [hg]; exact I.bare) fun b hb => by simp at hb
theorem f_sortSet (hm : X.mg "sorted" = none) (hm2 : X.mg "set" = none) (ha : DB X T a f) (hc : X.calm = true := by rfl) (hg : Gl X "sorted" := by rfl) (hg2 : Gl X "set" := by rfl) (na : starEach [a] X.env = (false, eval a X.env) :: starEach [] X.env := by rfl) :
    DF X T (.Call (.Name "sorted" p) [.Call (.Name "set" p2) [a] [] q2] [] pos) (unE sortSetD f) := by
  refine ⟨⟨fun pins s σ H Q I ⟨S, r, d, o, ef, k⟩ => ?_⟩⟩
  obtain ⟨x0, e1, e2⟩ := unE_some ef
  obtain ⟨ds, ns, rfl, hns, h4, h64, rfl⟩ := sortSetD_some e2
  refine Call_ (ld_blt I hg hm (show bootBuiltins "sorted" = some (.builtin "sorted") by decide +kernel) ?_)
  refine PyProof.Rows.callWith_builtin1 (PyProof.Rows.args_cons ?_ rfl) rfl rfl
  refine Call_ (ld_blt I hg2 hm2 (show bootBuiltins "set" = some (.type "set") by decide +kernel) ?_)
  refine PyProof.Rows.callWith_type1 (PyProof.Rows.args_cons (thn (ha.pe.run pins s σ H (fun v H' => Nxt T H H' ∧ RpB X.K S H' v (.list ds)) I ⟨S, r, _, o, e1, fun v H' n rv => ⟨n, rv⟩⟩) fun v s1 ⟨x, H1, I1, r1, n1, rx⟩ => PyProof.Rows.args_nil ?_) na) na rfl
  obtain ⟨l, ys, rfl, hl, rr⟩ := rx.list
  cases r1
  have ey := rpAll_intsOf rr hns
  subst ey
  obtain ⟨its, rv, pl, hz⟩ := I1.list hl
  refine dm_set_list ns (I1.ok.hd hc) pl.isList (by simpa using intsAre_of rv) (by unfold scanBound; omega) fun h' tk c hS hcn hk => ?_
  refine PyProof.Rows.args_nil ?_
  have I2 : Inv X pins σ H1 { s1 with heap := h', toks := tk } := I1.kept hk
  have hc64 : c < 64 := by
    obtain ⟨ob, es, ep, tb, _, _, _, g, nd, mem, _, _, ec, _⟩ := hS
    have : (es.toList.map keyOf).Perm (dedupI ns) := perm_of_mem nd (dedupI_nodup ns) fun j => by
      rw [← mem j, dedupI_mem]; simp
    have e := this.length_eq
    rw [List.length_map, Array.length_toList, ec] at e
    omega
  refine sorted_set hS (I2.ok.hd hc) hc64 fun s' p out c' ms hk2 hg2 ho2 hp ho hi hlt hmem hlen => ?_
  have em : ms = (dedupI ns).mergeSort fun a b => decide (a ≤ b) := sorted_set_eq hlt fun j => by rw [hmem j]; simp
  subst em
  have hnone : H1 p = none := I2.hok.fresh hp
  obtain ⟨n3, o3⟩ := own_newlst (K := X.K) (S := S) n1.tabs (o.live.ext n1.ext) hnone (rpAll_ints ((dedupI ns).mergeSort fun a b => decide (a ≤ b)))
  refine ⟨.ref p, _, inv_newL (us := out.toList) (n := c') I2 hk2 hg2 ho2 hp ?_ (vals_intsAre hi) (by rw [Array.toArray_toList]; exact ho), rfl, k p _ (n1.free hnone) (n1.trans n3) o3⟩
  rw [List.length_map, List.length_mergeSort, sizeLine_eq]
  omega
theorem e_lenSet (hm : X.mg "len" = none) (hm2 : X.mg "set" = none) (ha : DB X T a f) (hc : X.calm = true := by rfl) (hg : Gl X "len" := by rfl) (hg2 : Gl X "set" := by rfl) (na : starEach [a] X.env = (false, eval a X.env) :: starEach [] X.env := by rfl) :
    DE X T (.Call (.Name "len" p) [.Call (.Name "set" p2) [a] [] q2] [] pos) (unE lenSetD f) := by
  refine ⟨⟨fun pins s σ H Q I ⟨S, r, d, o, ef, k⟩ => ?_⟩⟩
  obtain ⟨x0, e1, e2⟩ := unE_some ef
  obtain ⟨ds, ns, rfl, hns, h4, rfl⟩ : ∃ ds ns, x0 = .list ds ∧ intsOf ds = some ns ∧ ns.length < 4000 ∧ d = .int (dedupI ns).length := by
    unfold lenSetD at e2
    split at e2
    · split at e2
      · rename_i ns hns
        split at e2
        · rename_i hb
          exact ⟨_, ns, rfl, hns, of_decide_eq_true hb, (Option.some.inj e2).symm⟩
        · cases e2
      · cases e2
    · cases e2
  refine Call_ (ld_blt I hg hm (show bootBuiltins "len" = some (.builtin "len") by decide +kernel) ?_)
  refine PyProof.Rows.callWith_builtin1 (PyProof.Rows.args_cons ?_ rfl) rfl rfl
  refine Call_ (ld_blt I hg2 hm2 (show bootBuiltins "set" = some (.type "set") by decide +kernel) ?_)
  refine PyProof.Rows.callWith_type1 (PyProof.Rows.args_cons (thn (ha.pe.run pins s σ H (fun v H' => Nxt T H H' ∧ RpB X.K S H' v (.list ds)) I ⟨S, r, _, o, e1, fun v H' n rv => ⟨n, rv⟩⟩) fun v s1 ⟨x, H1, I1, r1, n1, rx⟩ => PyProof.Rows.args_nil ?_) na) na rfl
  obtain ⟨l, ys, rfl, hl, rr⟩ := rx.list
  cases r1
  have ey := rpAll_intsOf rr hns
  subst ey
  obtain ⟨its, rv, pl, hz⟩ := I1.list hl
  refine dm_set_list ns (I1.ok.hd hc) pl.isList (by simpa using intsAre_of rv) (by unfold scanBound; omega) fun h' tk c hS hcn hk => ?_
  refine PyProof.Rows.args_nil ?_
  have I2 : Inv X pins σ H1 { s1 with heap := h', toks := tk } := I1.kept hk
  obtain ⟨ob, es, ep, tb, hob, hex, hdt, g, nd, mem, _, hf, ec, _⟩ := hS
  have pm : (es.toList.map keyOf).Perm (dedupI ns) := perm_of_mem nd (dedupI_nodup ns) fun j => by
    rw [← mem j, dedupI_mem]; simp
  have e9 := pm.length_eq
  rw [List.length_map, Array.length_toList, ec] at e9
  have lt9 : (dedupI ns).length ≤ ns.length := by rw [← e9]; exact hcn
  refine call_len_set hob hex hdt hf (by rw [ec]; omega) ⟨.int (dedupI ns).length, H1, I2.tok _, ⟨_, by rw [ec, e9]⟩, k _ H1 n1 (.int _)⟩
/-! ### sorted(d) -/
theorem cd_sortK (hc : X.calm = true) : CallR X (.builtin "sorted") (rF X.K T (on1 sortKD)) := by
  intro pins s σ H xs us Q I rx hh
  obtain ⟨S, d, x, r, t, l, rfl, hx, eo, q⟩ := rF_one hh
  unfold sortKD at eo
  split at eo
  · rename_i kvs
    split at eo
    · rename_i ns hns
      split at eo
      · rename_i hb
        cases eo
        have h64 : ns.length < 64 := of_decide_eq_true hb
        have fin : ∀ (ys : List Int) (p : Addr), ys.Perm ns → ys.Pairwise (· ≤ ·) → H p = none → Q (.ref p) (upd H p (.lst (ys.map V.int))) := fun ys p hp hs hn => by
          have : ys = ns.mergeSort fun a b => decide (a ≤ b) := eq_of_perm_le (hp.trans (List.mergeSort_perm _ _).symm) hs (sortI_pair _)
          subst this
          obtain ⟨n3, o3⟩ := own_newlst (K := X.K) (S := S) t l hn (rpAll_ints (ns.mergeSort fun a b => decide (a ≤ b)))
          exact q p _ hn n3 o3
        have keyEq : ∀ (ks : List Key) (ms : List Int), intsOf (ks.map kD) = some ms → ks = ms.map Sum.inl := fun ks => by
          induction ks with
          | nil => intro ms h; simp [intsOf] at h; subst h; rfl
          | cons k ks ih =>
            intro ms h
            cases k with
            | inl i =>
              simp only [List.map_cons, kD, intsOf, Option.map_eq_some_iff] at h
              obtain ⟨zs, h1, rfl⟩ := h
              rw [ih zs h1]; rfl
            | inr z => simp [kD, intsOf] at h
        obtain ⟨a, rfl, ⟨ks, h1, h2, h3⟩ | ⟨ks, h1, h2, h3⟩⟩ := hx.dict
        · have e5 : kvs.map (·.1) = (ks.map (·.1)).map kD := by rw [h3.keys, List.map_map]; rfl
          rw [e5] at hns
          exact call_sortedDI hc pins s σ H _ us Q I rx ⟨a, ks, ns, rfl, h1, keyEq _ _ hns, h64, fin⟩
        · cases ks with
          | nil =>
            cases h3
            simp [intsOf] at hns
            subst hns
            obtain ⟨u, rfl, ru⟩ := rx.one
            cases ru
            have hH := h2 rfl
            have I1 := inv_emp I (.inr rfl) (.inl rfl) hH
            have back : upd (upd H a (.dK [])) a (.dT []) = H := by rw [upd_upd, upd_self hH]
            refine thn (call_sortedDI hc pins s σ (upd H a (.dK [])) [V.ref a] [.ref a] (fun v H' => ∃ p, v = .ref p ∧ H p = none ∧ p ≠ a ∧ H' = upd (upd H a (.dK [])) p (.lst [])) I1 (.cons rfl .nil) ⟨a, [], [], rfl, .inl upd_same, rfl, by decide, fun ys p hp hs hn => ?_⟩) fun v s1 ⟨x1, H1, I2, r2, p1, e1, e2, e3, e4⟩ => ?_
            · have hpa : p ≠ a := fun z => by rw [z, upd_same] at hn; cases hn
              have ey : ys = [] := hp.eq_nil
              subst ey
              exact ⟨p, rfl, by rw [upd_ne hpa] at hn; exact hn, hpa, rfl⟩
            · subst e1 e4
              have I3 := inv_emp I2 (.inl rfl) (.inr rfl) (show (upd (upd H a (.dK [])) p1 (.lst [])) a = some (.dK []) from (upd_ne (Ne.symm e3)).trans upd_same)
              have e6 : upd (upd (upd H a (.dK [])) p1 (.lst [])) a (.dT []) = upd H p1 (.lst []) := by
                funext b
                by_cases hb : b = a
                · subst hb; rw [upd_same, upd_ne (Ne.symm e3), hH]
                · by_cases hp : b = p1
                  · subst hp; rw [upd_ne hb, upd_same, upd_same]
                  · rw [upd_ne hb, upd_ne hp, upd_ne hb, upd_ne hp]
              rw [e6] at I3
              exact ⟨.ref p1, _, I3, r2, fin [] p1 (List.Perm.refl _) .nil e2⟩
          | cons k ks =>
            cases h3
            simp [intsOf] at hns
      · cases eo
    · cases eo
  · cases eo
theorem f_sortK (hm : X.mg "sorted" = none) (ha : DB X T a f) (hc : X.calm = true := by rfl) (hg : Gl X "sorted" := by rfl) (he : starEach [a] X.env = (false, eval a X.env) :: starEach [] X.env := by rfl) : DF X T (.Call (.Name "sorted" p) [a] [] pos) (unE sortKD f) :=
  (f_bi (cd_sortK hc) hm (by decide +kernel) (b_cons ha b_nil he) hg (by decide) (by decide) he).of fun _ _ h => un_on1 h
/-! ### {} -/
theorem f_d0 : DF X T (.Dict [] [] pos) (dispE []) := ⟨PE.imp pe_dnewK fun σ H Q ⟨S, r, d, o, ef, k⟩ p hp => by
  simp [dispE, dispL] at ef
  subst ef
  exact k p _ hp (nxt_new o.tabs hp) (.dk upd_same .nil)⟩
/-! ### (..) * k -/
theorem tuple_once (l : Addr) (items : Array Value) (n : Nat) (dd : Option Addr) (sl : Array (Option Value)) (u : Tok) :
    Meets (Builtin.«tuple.__mul__» ⟨[.ref l, .int 1 u], []⟩) (fun _ R s => s.heap.get? l = some { cls := .type "tuple", dict := dd, data := .seq items n, slots := sl } ∧ R (.ok (.ret (Value.ref l))) s) :=
  .of_wp fun prog w A R s h => by
    obtain ⟨hp, g, d, tk, os⟩ := s; obtain ⟨hl, h⟩ := h; have f1 := AutoSeq1.idx_int; have f2 := AutoSeq1.sub_tuple_tuple
    wp_walk using AutoSeq1.wpAny_loadPart' hl
    repeat (first
      | (refine wpAny_ite_false (decide_eq_false (by decide)) ?_; wp_walk using AutoSeq1.wpAny_loadPart' hl)
      | (refine wpAny_ite_true (decide_eq_true (by simp)) ?_; wp_walk using AutoSeq1.wpAny_loadPart' hl))
    all_goals exact ⟨_, rfl, h⟩
theorem o_mulT : OpD X T (binaryOp .Mult) repT := fun pins s σ H S x y v u d e r Q I t l rx ry px py eo q => by
  unfold repT at eo
  split at eo
  · rename_i ds k
    split at eo
    · rename_i hb
      cases eo
      simp only [Bool.and_eq_true, decide_eq_true_eq, Bool.not_eq_true'] at hb
      obtain ⟨⟨hz, h1, h2⟩, hne⟩ := hb
      have px0 := px
      obtain ⟨a, xs, rfl, hx, rr⟩ := px.tuple
      obtain rfl := py.int
      have hxs : xs ≠ [] := fun z => by
        have := rr.length
        rw [z] at this
        cases ds with
        | nil => simp at hne
        | cons _ _ => simp at this
      by_cases hk : k = 1
      · subst hk
        cases rx
        obtain ⟨tk, rfl⟩ := ry
        obtain ⟨its, r, ⟨⟨cls, dd, data, sl⟩, ho, hc, n, hd⟩, hs⟩ := I.tuple (.of hx)
        simp only at hc hd
        subst hc hd
        refine wpAny_binaryOp_repeat_ref (T := "tuple") (U := "int") (by decide) ⟨_, ho, rfl⟩ (fun s' => typeIs_int s' 1 tk) noFill_tuple_mul F.fills_int_mul F.slot_int_rmul repeat_tuple F.slot_int_index.lookup
          (call_meets F.slot_int_rmul (typeIs_int s 1 tk) F.entry_int_rmul (F.args_int_rmul_2 _ _) (int_rmul_tuple 1 tk a its.toArray n dd sl) ⟨ho, rfl, ⟨_, ho, rfl⟩, call_meets F.slot_tuple_mul ⟨_, ho, rfl⟩ F.entry_tuple_mul (F.args_tuple_mul_2 _ _) (tuple_once a its.toArray n dd sl tk) ⟨ho, ?_⟩⟩)
        have e1 : (List.replicate (1 : Int).toNat ds).flatten = ds := by simp
        rw [e1] at q
        refine ⟨.ref a, H, I, rfl, q _ H (Nxt.refl t) ?_⟩
        rcases px0 with h | ⟨p, e, o⟩
        · exact h
        · cases o
      · refine op_repT pins s σ H _ _ v u Q I rx ry ⟨a, k, xs, rfl, rfl, .of hx, hxs, by omega, h2, by rw [rr.length]; exact hz, fun p hp => ?_⟩
        obtain ⟨n1, r1⟩ := rp_newtup t l hp (rr.rep k.toNat)
        exact q _ _ n1 r1
    · cases eo
  · cases eo
/-! ### {k: v for ..} -/
theorem dcompL_cons {r : Env} {tg : Tg} {ts : Dm.T} {k v : E} {acc : List (D × D)} {x : D} {xs : List D} {z : List (D × D)} (h : dcompL r tg ts k v acc (x :: xs) = some z) :
    ∃ r1 b, asg tg x r = some r1 ∧ ts r1 = some b ∧ if b = true then ∃ d e, k r1 = some d ∧ v r1 = some e ∧ flatK d = true ∧ lenOk (acc.length + 1) = true ∧ dcompL r tg ts k v (putD acc d e) xs = some z else dcompL r tg ts k v acc xs = some z := by
  simp only [dcompL, Option.bind_eq_bind, Option.bind_eq_some_iff] at h
  obtain ⟨r1, h1, b, h2, h3⟩ := h
  refine ⟨r1, b, h1, h2, ?_⟩
  cases b with
  | false => simpa using h3
  | true =>
    simp only [if_true, Option.bind_eq_some_iff] at h3 ⊢
    obtain ⟨d, h4, e, h5, h6⟩ := h3
    split at h6
    · rename_i hb
      obtain ⟨b1, b2⟩ := Bool.and_eq_true_iff.mp hb
      exact ⟨d, e, h4, h5, b1, b2, h6⟩
    · cases h6
theorem dc_df {K : PySem.W.Frag} {q : Bool} {it : I} {t : Tg} {ts : Dm.T} {ek ev : E} {own : List Nat} (hw : ∀ j ∈ t.slots, j ∈ own) : tDF' K T (dcompE own it t ts ek ev) (tDc (tDI K T q it) (tDG K T t) (tDT K T ts) (tDE K T ek) (tDE K T ev) own) := fun σ H Q ⟨S, r, d, o, ef, k⟩ => by
    simp only [dcompE, Option.bind_eq_bind, Option.bind_eq_some_iff] at ef
    obtain ⟨ds, e1, zs, e2, e3⟩ := ef
    cases e3
    refine ⟨S, r, ds, o, e1, fun J H1 kp fx n1 hkp hfx hit D hD => ?_⟩
    have lv1 : Live S H1 := o.live.ext n1.ext
    have hD0 : H D = none := n1.free hD
    let W : Nat → Nat → Hp → Prop := fun i m Hc => ∃ acc accD, i + m = ds.length ∧ Hc D = some (.dK acc) ∧ RpK K (mns (D :: S) Hc) acc accD ∧ dcompL (wipeE r (own)) t ts ek ev accD (ds.drop i) = some zs ∧ Nxt T H1 Hc
    refine ⟨W, ⟨ds.length, [], [], by omega, upd_same, .nil, by simpa using e2, nxt_new n1.tabs hD⟩, ?_⟩
    rintro i m Hc ⟨acc, accD, him, hc', ra, ec, nc⟩
    have eo : EnvOk K T (D :: S) Hc σ r := (o.nxt n1).more hD nc hc' (NT.dK acc)
    have ew := eo.wipe (own)
    have kc : ∀ x ∈ kp, RpB K (D :: S) Hc x.1 x.2 := fun x hx => ((hkp x hx).more lv1 hD nc).look
    obtain ⟨st, go⟩ := hit (D :: S) Hc eo.tabs eo.live kc (hfx.more hD nc)
    by_cases hi : ds.length ≤ i
    · refine .inl ⟨st i hi, ?_⟩
      rw [List.drop_eq_nil_of_le hi] at ec
      simp only [dcompL, Option.some.injEq] at ec
      subst ec
      exact k D Hc hD0 (n1.trans nc) (.dk hc' ra)
    · have hi' : i < ds.length := Nat.lt_of_not_le hi
      obtain ⟨g1, g2⟩ := go i _ (List.getElem?_eq_getElem hi')
      rw [List.drop_eq_getElem_cons hi'] at ec
      obtain ⟨r1, b, f1, f2, f3⟩ := dcompL_cons ec
      refine .inr ⟨g1, fun H' => W (i + 1) (m - 1) H', fun H' w' => ⟨m - 1, by omega, w'⟩, fun x H2 y => ?_⟩
      obtain ⟨n2, rx⟩ := g2 x H2 y
      refine ⟨D :: S, _, _, r1, ew.nxt n2, rx, f1, fun σ' o' u' => ⟨u'.wipe hw, D :: S, r1, b, o', f2, fun H3 n3 => ?_⟩⟩
      have hc3 : H3 D = some (.dK acc) := n3.ext _ _ (n2.ext _ _ hc' fun _ z => by cases z) fun _ z => by cases z
      cases b with
      | false =>
        rw [if_neg Bool.false_ne_true] at f3
        show W (i + 1) (m - 1) H3
        exact ⟨acc, accD, by omega, hc3, ra.le (le_mns (n2.trans n3).le), f3, nc.trans (n2.trans n3)⟩
      | true =>
        rw [if_pos rfl] at f3
        show tDE K T ek σ' H3 _
        obtain ⟨dk, de, g3, g4, g5, g6, g7⟩ := f3
        refine ⟨D :: S, r1, dk, o'.nxt n3, g3, fun vk H4 n4 rk => ⟨D :: S, r1, de, (o'.nxt n3).nxt n4, g4, fun vv H5 n5 rv => ?_⟩⟩
        obtain ⟨key, rfl⟩ := flatK_key g5
        have hc5 : H5 D = some (.dK acc) := n5.ext _ _ (n4.ext _ _ hc3 fun _ z => by cases z) fun _ z => by cases z
        have nn := (n2.trans n3).trans (n4.trans n5)
        refine ⟨acc, key, kD_kV rk, hc5, by rw [ra.length]; exact lenOk_lt g6, _, _, by omega, upd_same, ?_, g7, (nc.trans nn).grow hD hc5 (NT.dK _)⟩
        rw [mns_upd]
        exact RpK.put rv (ra.le (le_mns nn.le))
theorem f_dc {kx vx tg iter : Expr} {ifs : List Expr} {scope : Scope} {own : List (Str × Nat)} {q : Bool} {it : I} {t : Tg} {ts : Dm.T} {ek ev : E} (hc : X.calm = true) (hN : X.N.Nodup) (hi : DI X T q tg iter it) (ok : BlkOk X.N X.env.scope scope own)
    (hg : ∀ (s : Shared) (H : Hp) (C : Addr) (cl : List (Str × Addr)) (fp : List Addr), DG (X.blk s H scope (compEnvC scope cl C X.env) fp) T tg t) (ht : ∀ (s : Shared) (H : Hp) (C : Addr) (cl : List (Str × Addr)) (fp : List Addr), DTs (X.blk s H scope (compEnvC scope cl C X.env) fp) T ifs ts)
    (hk : ∀ (s : Shared) (H : Hp) (C : Addr) (cl : List (Str × Addr)) (fp : List Addr), DE (X.blk s H scope (compEnvC scope cl C X.env) fp) T kx ek) (hv : ∀ (s : Shared) (H : Hp) (C : Addr) (cl : List (Str × Addr)) (fp : List Addr), DE (X.blk s H scope (compEnvC scope cl C X.env) fp) T vx ev)
    (hw : ∀ j ∈ t.slots, j ∈ own.map (·.2) := by decide) (hs : ∀ x, foldedSetIterable iter X.env x = pure x := by intro _; rfl) : DF X T (.DictComp kx vx [⟨tg, iter, ifs, 0⟩] scope pos) (dcompE (own.map (·.2)) it t ts ek ev) :=
  ⟨PE.imp (pe_dc (g := tDG X.K T t) (tt := tDT X.K T ts) (tk := tDE X.K T ek) (tv := tDE X.K T ev) hc hN hi.pi ok (fun s H C cl fp => (hg s H C cl fp).pg) (fun s H C cl fp => (ht s H C cl fp).pt) (fun s H C cl fp => (hk s H C cl fp).pe) (fun s H C cl fp => (hv s H C cl fp).pe) hs) (dc_df hw)⟩
end
end Dm
end

section
set_option Elab.async false
set_option linter.all false
set_option autoImplicit true
set_option maxRecDepth 100000
set_option maxHeartbeats 1000000
/-! DFun4: a dict comprehension assigned to a name, range downwards, small checks for the walk. -/
namespace Dm
open PySem PySem.Spec PyProof.Rows L2
/-! ### checks -/
def scopeB (N P : List Str) (sc : Scope) : Bool :=
  (match sc.kind with | .function => true | _ => false) && !sc.isCoroutine && !sc.isGenerator && decide N.Nodup && decide (N.take P.length = P)
    && P.all (fun x => decide (sc.names.lookup x = some .local) || decide (sc.names.lookup x = some .cell)) && sc.names.all fun y => decide (y.2 ≠ .free)
theorem fnScope_by {N P : List Str} {sc : Scope} (h : scopeB N P sc = true) : FnScope N P sc := by
  unfold scopeB at h
  simp only [Bool.and_eq_true, Bool.or_eq_true, List.all_eq_true, decide_eq_true_eq, Bool.not_eq_true'] at h
  obtain ⟨⟨⟨⟨⟨⟨h1, h2⟩, h3⟩, h4⟩, h5⟩, h6⟩, h7⟩ := h
  refine ⟨?_, h2, h3, h4, h5, h6, h7⟩
  split at h1
  · assumption
  · cases h1
theorem blkOk_at {N N' : List Str} {sc sc' scope : Scope} {own : List (Str × Nat)} (hN : N' = N) (hs : sc' = sc) (h : blkC N sc scope own = true) : BlkOk N' sc' scope own := by
  subst hN hs
  exact blkOk_by h
section
variable {X : Cx} {T : List Addr}
/-! ### name = {.. for ..} on one line -/
variable {i : Nat} {y : Str} {py : Pos} {kx vx tg iter : Expr} {ifs : List Expr} {scope : Scope} {own : List (Str × Nat)} {pos spos : Pos}
theorem sw_dict {l : Nat} {env : PySem.Env} (hk : env.scope.kind = .function) (hy : env.scope.names.lookup y = some .local) (hl : (py.line == pos.line) = true)
    (ha : (scope.names.any fun (n, k) => n == y && (k == .local || k == .cell)) = false) : swapsWith (.DictComp kx vx gs scope pos) (some (.Name y py)) l env = pure true := by
  have e1 : env.kindOf y = some .local := hy
  have e2 : env.blockKind = .function := by
    unfold Env.blockKind
    rw [hk]
    rfl
  unfold swapsWith
  simp only [e2, e1, ha, Expr.pos, hl]
  rfl
theorem ps_setDc {wi : TI} {g : TG} {tt : TT} {tk tv : TE} (hc : X.calm = true) (hN : X.N.Nodup) (hy : X.N[i]? = some y) (hyl : X.env.scope.names.lookup y = some .local)
    (hsw : swapsWith (.DictComp kx vx [⟨tg, iter, ifs, 0⟩] scope pos) (some (.Name y py)) spos.line X.env = pure true) (hi : PI X tg iter wi) (ok : BlkOk X.N X.env.scope scope own)
    (hg : ∀ (s : Shared) (H : Hp) (C : Addr) (cl : List (Str × Addr)) (fp : List Addr), PG (X.blk s H scope (compEnvC scope cl C X.env) fp) tg g) (ht : ∀ (s : Shared) (H : Hp) (C : Addr) (cl : List (Str × Addr)) (fp : List Addr), PTs (X.blk s H scope (compEnvC scope cl C X.env) fp) ifs tt)
    (hk : ∀ (s : Shared) (H : Hp) (C : Addr) (cl : List (Str × Addr)) (fp : List Addr), PE (X.blk s H scope (compEnvC scope cl C X.env) fp) kx tk)
    (he : ∀ (s : Shared) (H : Hp) (C : Addr) (cl : List (Str × Addr)) (fp : List Addr), PE (X.blk s H scope (compEnvC scope cl C X.env) fp) vx tv) (hs : ∀ x, foldedSetIterable iter X.env x = pure x := by intro _; rfl) :
    PS X (.Assign [.Name y py] (.DictComp kx vx [⟨tg, iter, ifs, 0⟩] scope pos) spos) (tAsg (tDc wi g tt tk tv (own.map (·.2))) (gName i)) := by
  refine ⟨fun pins s σ H Z I hh => ?_⟩
  rw [exec_Assign_Name_used _ _ _ _ hsw]
  refine wpAny_bind (wpAny_standAt (wpAny_bind ?_))
  show wpAny _ X.A (do let _ ← comprehension (.DictComp kx vx [⟨tg, iter, ifs, 0⟩] scope pos) scope X.env (firstIterPos [⟨tg, iter, ifs, 0⟩] pos) newDict false (eval iter X.env) (some (assign (.Name y py) X.env))) _ _ s
  have hh2 : tDc wi g tt tk tv (own.map (·.2)) σ H (fun x H1 => gName i x σ H1 Z.nx) := hh
  refine wpAny_bind (thn (dc_core (Qf := fun _ r => SP X pins Z .next r) hc hN I hi ok hg ht hk he hs hh2 fun D C s1 m H1 I1 q1 ns f1 => ?_) fun _ r hr => wpAny_pure (wpAny_pure hr))
  show wpAny _ _ (assign (.Name y py) X.env (.ref D)) _ _ _
  refine wpAny_assign_Name (store_ok2 (v := V.ref D) I1 hN hy (.inl hyl) rfl (fun s2 I2 ⟨a, sb, ha⟩ => ?_) (.inr hyl))
  obtain ⟨a0, a1, a2, a3, a4, a5⟩ := f1
  have hne : C ≠ a := by
    rcases ha with z | z
    · intro e
      exact a1 (e.trans z)
    · exact fun e => a4 y a z e.symm
  refine ⟨m, ns.sameBut sb hne, fun h3 sb3 => ?_⟩
  exact ⟨_, H1, I2.turned (t' := s2.toks) (fun b o hb e => (sb3.2 b hb).trans e) a0 a1 a3 a4 a5, q1⟩
variable {q : Bool} {it : I} {t : Tg} {ts : Dm.T} {ek ev : E}
/-- name = {..} on one line, the name's own or a datum that stays -/
theorem s_ownDc (i : Nat) (hc : X.calm = true) (hN : X.N.Nodup) (hi : DI X T q tg iter it) (ok : BlkOk X.N X.env.scope scope own)
    (hg : ∀ (s : Shared) (H : Hp) (C : Addr) (cl : List (Str × Addr)) (fp : List Addr), DG (X.blk s H scope (compEnvC scope cl C X.env) fp) T tg t) (ht : ∀ (s : Shared) (H : Hp) (C : Addr) (cl : List (Str × Addr)) (fp : List Addr), DTs (X.blk s H scope (compEnvC scope cl C X.env) fp) T ifs ts)
    (hk : ∀ (s : Shared) (H : Hp) (C : Addr) (cl : List (Str × Addr)) (fp : List Addr), DE (X.blk s H scope (compEnvC scope cl C X.env) fp) T kx ek) (hv : ∀ (s : Shared) (H : Hp) (C : Addr) (cl : List (Str × Addr)) (fp : List Addr), DE (X.blk s H scope (compEnvC scope cl C X.env) fp) T vx ev)
    (hw : ∀ j ∈ t.slots, j ∈ own.map (·.2) := by decide) (hy : X.N[i]? = some y := by rfl) (hyl : X.env.scope.names.lookup y = some .local := by rfl)
    (hsw : swapsWith (.DictComp kx vx [⟨tg, iter, ifs, 0⟩] scope pos) (some (.Name y py)) spos.line X.env = pure true := by exact sw_dict rfl rfl rfl (by decide +kernel)) (hs : ∀ x, foldedSetIterable iter X.env x = pure x := by intro _; rfl) :
    DS X T (.Assign [.Name y py] (.DictComp kx vx [⟨tg, iter, ifs, 0⟩] scope pos) spos) (sOwn i (dcompE (own.map (·.2)) it t ts ek ev)) :=
  ⟨PS.imp (ps_setDc (tk := tDE X.K T ek) (tv := tDE X.K T ev) hc hN hy hyl hsw hi.pi ok (fun s H C cl fp => (hg s H C cl fp).pg) (fun s H C cl fp => (ht s H C cl fp).pt) (fun s H C cl fp => (hk s H C cl fp).pe) (fun s H C cl fp => (hv s H C cl fp).pe) hs) fun Z σ H h => own_of (dc_df hw) h⟩
theorem s_setDc (i : Nat) (hc : X.calm = true) (hN : X.N.Nodup) (hi : DI X T q tg iter it) (ok : BlkOk X.N X.env.scope scope own)
    (hg : ∀ (s : Shared) (H : Hp) (C : Addr) (cl : List (Str × Addr)) (fp : List Addr), DG (X.blk s H scope (compEnvC scope cl C X.env) fp) T tg t) (ht : ∀ (s : Shared) (H : Hp) (C : Addr) (cl : List (Str × Addr)) (fp : List Addr), DTs (X.blk s H scope (compEnvC scope cl C X.env) fp) T ifs ts)
    (hk : ∀ (s : Shared) (H : Hp) (C : Addr) (cl : List (Str × Addr)) (fp : List Addr), DE (X.blk s H scope (compEnvC scope cl C X.env) fp) T kx ek) (hv : ∀ (s : Shared) (H : Hp) (C : Addr) (cl : List (Str × Addr)) (fp : List Addr), DE (X.blk s H scope (compEnvC scope cl C X.env) fp) T vx ev)
    (hw : ∀ j ∈ t.slots, j ∈ own.map (·.2) := by decide) (hy : X.N[i]? = some y := by rfl) (hyl : X.env.scope.names.lookup y = some .local := by rfl)
    (hsw : swapsWith (.DictComp kx vx [⟨tg, iter, ifs, 0⟩] scope pos) (some (.Name y py)) spos.line X.env = pure true := by exact sw_dict rfl rfl rfl (by decide +kernel)) (hs : ∀ x, foldedSetIterable iter X.env x = pure x := by intro _; rfl) :
    DS X T (.Assign [.Name y py] (.DictComp kx vx [⟨tg, iter, ifs, 0⟩] scope pos) spos) (sAsg (.nm i) (dcompE (own.map (·.2)) it t ts ek ev)) :=
  ⟨PS.imp (ps_setDc (tk := tDE X.K T ek) (tv := tDE X.K T ev) hc hN hy hyl hsw hi.pi ok (fun s H C cl fp => (hg s H C cl fp).pg) (fun s H C cl fp => (ht s H C cl fp).pt) (fun s H C cl fp => (hk s H C cl fp).pe) (fun s H C cl fp => (hv s H C cl fp).pe) hs) fun Z σ H h => va_of (dc_df hw) h⟩
end
/-! ### range(a, b, -1) -/
section
variable {X : Cx} {T : List Addr} {a b : Expr} {f g : E} {p pos p1 p2 : Pos} {k1 : Nat}
theorem rgDown_some {r : Env} {ds : List D} (h : rgDownI f g r = some ds) : ∃ x y, f r = some (.int x) ∧ g r = some (.int y) ∧ big62 x = true ∧ big62 y = true ∧ ds = (List.range (x - y).toNat).map fun i : Nat => .int (x - (i : Int)) := by
  simp only [rgDownI, Option.bind_eq_bind, Option.bind_eq_some_iff] at h
  obtain ⟨u, h1, v, h2, h3⟩ := h
  split at h3
  · split at h3
    · rename_i x y hb
      cases h3
      obtain ⟨q1, q2⟩ := Bool.and_eq_true_iff.mp hb
      exact ⟨x, y, h1, h2, q1, q2, rfl⟩
    · cases h3
  · cases h3
theorem it_down {K : PySem.W.Frag} (x : Int) (n : Nat) : ItOk K T [] [] ((List.range n).map fun i : Nat => .int (x - (i : Int))) (Itc x (-1) n) := fun S H t l k _ => by
  refine ⟨fun i hi' => show n ≤ i by simpa using hi', fun i d hd => ?_⟩
  obtain ⟨h1, h2⟩ := List.getElem?_eq_some_iff.mp hd
  have h3 : i < n := by simpa using h1
  refine ⟨h3, fun z H' ⟨e1, e2⟩ => ?_⟩
  subst e1 e2
  refine ⟨Nxt.refl t, ?_⟩
  have e : d = .int (x + (i : Nat) * (-1)) := by
    rw [← h2]
    simp
    omega
  rw [e]
  exact .int _
theorem i_rangeDown {tg : Expr} {q : Bool} (hm : X.mg "range" = none) (ha : DE X T a f) (hb : DE X T b g) (hg : Gl X "range" := by rfl)
    (hs : starEach [a, b, .UnaryOp .USub (.Constant (.int 1) k1 p1) p2] X.env = (false, eval a X.env) :: starEach [b, .UnaryOp .USub (.Constant (.int 1) k1 p1) p2] X.env := by rfl)
    (hs2 : starEach [b, .UnaryOp .USub (.Constant (.int 1) k1 p1) p2] X.env = (false, eval b X.env) :: starEach [.UnaryOp .USub (.Constant (.int 1) k1 p1) p2] X.env := by rfl)
    (hs3 : starEach [.UnaryOp .USub (.Constant (.int 1) k1 p1) p2] X.env = (false, eval (.UnaryOp .USub (.Constant (.int 1) k1 p1) p2) X.env) :: starEach [] X.env := by rfl)
    (hpl : (backTo pos (starEach [b, .UnaryOp .USub (.Constant (.int 1) k1 p1) p2] X.env)).any (·.1) = false := by rfl) :
    DI X T q tg (.Call (.Name "range" p) [a, b, .UnaryOp .USub (.Constant (.int 1) k1 p1) p2] [] pos) (rgDownI f g) :=
  ⟨PI.imp (pi_range3 hg hm (a_cons ha (a_cons hb (a_cons (e_neg e_int) a_nil hs3) hs2) hs).pa hs hpl) fun σ H R ⟨S, r, ds, o, ef, k⟩ => by
    obtain ⟨i, j, e1, e2, b1, b2, rfl⟩ := rgDown_some ef
    have e3 : unE negD (kE (.int 1)) r = some (.int (-1)) := rfl
    refine ⟨S, r, [.int i, .int j, .int (-1)], o, by simp [argsE, e1, e2, e3], fun vs H' n rp => ?_⟩
    cases rp with
    | cons ra rb =>
      cases ra
      cases rb with
      | cons ra rb =>
        cases ra
        cases rb with
        | cons ra rb =>
          cases ra
          cases rb
          obtain ⟨h1, h2⟩ := big_ok b1
          obtain ⟨h3, h4⟩ := big_ok b2
          exact ⟨i, j, -1, _, rfl, RgC.neg h1 h2 h3 h4, k _ H' [] [] n (fun x hx => by simp at hx) Fx.nil (it_down i _)⟩⟩
end
end Dm
end

section
set_option Elab.async false
set_option linter.all false
set_option autoImplicit true
set_option maxRecDepth 100000
/-! DHead: what the head tells, as the walk needs it. -/
namespace Dm
open PySem PySem.Spec PyProof.Rows L2
theorem code_of {K : PySem.W.Frag} {x q : Str} {params : Arguments} {body : List Stmt} {scope : Scope} {dvs : List V} {kws : List (Str × V)} {p : He.Defn} {fd : FuncData} (Fn : FunD K x q params body scope dvs kws (He.fAd K p) fd) : fd.code = .ref (He.codeOf K p) := by
  obtain ⟨oc, od, dV, kV, doc, pm, an, cdv, ct, osl, e, lk, hcd, _, _⟩ := Fn.ex
  obtain ⟨c, hc⟩ := He.codeIn_ref hcd
  have e2 : fd.code = .ref c := by
    rw [e, ← hc] <;> rfl
  rw [He.codeOf_eq lk e2]
  exact e2
theorem tabs_new {cs : List (Addr × Addr)} {H : Hp} (h : ∀ p ∈ cs, H p.2 = some (.tbl #[])) : Tabs (cs.map (·.2)) H := fun P hP => by
  obtain ⟨p, hp, rfl⟩ := List.mem_map.mp hP
  exact ⟨#[], h p hp, by first | exact LamX.TriplesOk.nil | constructor | trivial | (intro x hx; cases hx)⟩
/-- the law's def from what it computes -/
theorem spD_law {K : PySem.W.Frag} {T : List Addr} {F : List D → Option D} {H : Hp} {a : Addr} {ns : List Int} {E : XK} (hT : Tabs T H) (hS : SqL K H a (ns.map V.int)) (hF : F [.list (ns.map .int)] = some (.bool true)) :
    spD K T 1 F [.ref a] H (fun v _ => v = .bl true) E :=
  ⟨[], [.list (ns.map .int)], .bool true, rfl, hT, (fun b hb => by cases hb), .cons (.lst (by rw [mns_nil]; exact hS) (RpAll.ints ns)) .nil, hF, fun v H' _ r => by
    cases r
    rfl⟩
theorem law_at {l : PySem.W.OpenLaw} {w : World} {K : PySem.W.Frag} {h : Heap} {mg : Str → Option Value} {f : Addr} {fd : FuncData} {n k : Nat} {x : Str} {F : List D → Option D} {fa : List He.Fa} {fn : List He.DefD} {ts : List He.Tab} {tf : List He.Defn} {ex : PySem.W.Frag → Bool}
    (X : K.In h) (c : He.SaysX fa fn ts tf ex w h K) (hb : ∀ (s : Shared) (u : Value), BindsTo s fd ⟨[u], []⟩ [(x, u)]) (hF : ∀ ns : List Int, ns.length ≤ n → F [.list (ns.map .int)] = some (.bool true))
    (ok : ∀ base : Heap, K.In base → base.Ns mainGlobals mg → (∀ p ∈ tf, LamX.TabB base mg (He.codeOf K p) (He.cT K p).2) → FnOk l.prog w K mg base CX0 k f fd [x] (spD K ((tf.map (He.cT K)).map (·.2)) 1 F)) : LamX.LawAtS l w K CX0 k n x mg f h := by
  refine ⟨fd, tf.map (He.cT K), _, fun p hp => ?_, fun p hp => ?_, fun p hp => ?_, hb, fun H a ns hl _ hT hS => spD_law (tabs_new hT) hS (hF ns hl), fun base bX bG TB => ok base bX bG fun p hp => TB _ (List.mem_map_of_mem hp)⟩
  · obtain ⟨q, hq, rfl⟩ := List.mem_map.mp hp
    exact c.empty q hq
  · obtain ⟨q, hq, rfl⟩ := List.mem_map.mp hp
    exact c.out q hq
  · obtain ⟨q, hq, rfl⟩ := List.mem_map.mp hp
    exact PySem.W.codeHd_of_K X (c.hd q hq)
theorem tab_in {K : PySem.W.Frag} {tf : List He.Defn} {p : He.Defn} (h : p ∈ tf) : (He.cT K p).2 ∈ (tf.map (He.cT K)).map (·.2) := List.mem_map_of_mem (List.mem_map_of_mem h)
end Dm
end

section
set_option autoImplicit false
set_option linter.all false
namespace Dm
open PySem
def B_is_duty : S :=
  (blk [(sIf (trT (opE neD (unE lenD (vE 1)) (unE lenD (vE 0)))) (blk [(sRet (kE (.bool false)))]) (blk [])), (sIf (notT (trT (allE [2, 3] (zipI (vE 1) (vE 0)) (.tp [(.nm 2), (.nm 3)]) noT (opE inD (vE 2) (vE 3))))) (blk [(sRet (kE (.bool false)))]) (blk [])), (sRet (allE [4] (rgI (kE (.int 0)) (opE subD (unE lenD (vE 1)) (kE (.int 1)))) (.nm 4) noT (opE neD (opE ixD (vE 1) (vE 4)) (opE ixD (vE 1) (opE addD (vE 4) (kE (.int 1)))))))])
def F_is_duty : List D → Option D := dDef 2 5 B_is_duty
def B_ways_behind : S :=
  (blk [(sOwn 1 (lstE [])), (sFor (revI (vE 0)) (.nm 2) (blk [(sAsg (.nm 3) (ifE (trT (bE 1)) (opE ixD (bE 1) (unE negD (kE (.int 1)))) (kE .none))), (sOwn 4 (dispE [])), (sFor (seqI (vE 2)) (.nm 5) (blk [(sIf (trT (unE isND (vE 3))) (blk [(sPut 4 (vE 5) (kE (.int 1)))]) (blk [(sPut 4 (vE 5) (unE sumD (lstI (compI [6] (keysI (vE 3)) (.nm 6) (trT (opE neD (vE 6) (vE 5))) (opE ixD (vE 3) (vE 6))))))]))])), (sAppMv 1 4)])), (sRet (backE (bE 1) none))])
def F_ways_behind : List D → Option D := dDef 1 7 B_ways_behind
def B_told_duty : S :=
  (blk [(sAsg (.nm 1) (tupE [])), (sFor (seqI (callE F_ways_behind [(vE 0)])) (.nm 2) (blk [(sAsg (.nm 3) (lstI (compI [4] (seqI (unE sortKD (vE 2))) (.nm 4) (andT (trT (opE gtD (opE ixD (vE 2) (vE 4)) (kE (.int 0)))) (trT (opE ninD (vE 4) (cutE (vE 1) (some (unE negD (kE (.int 1)))) none)))) (vE 4)))), (sIf (notT (trT (vE 3))) (blk [(sRet (kE .none))]) (blk [])), (sAsg (.nm 1) (opE addD (vE 1) (tupE [(opE ixD (vE 3) (kE (.int 0)))])))])), (sRet (vE 1))])
def F_told_duty : List D → Option D := dDef 1 5 B_told_duty
def B_bound_by : S :=
  (blk [(sAsg (.nm 3) (opE ixD (opE ixD (vE 0) (vE 1)) (kE (.int 0)))), (sFor (rgI (opE addD (vE 1) (kE (.int 1))) (opE addD (vE 2) (kE (.int 1)))) (.nm 4) (blk [(sIf (orT (trT (opE neD (unE lenD (opE ixD (vE 0) (vE 4))) (kE (.int 2)))) (trT (opE ninD (vE 3) (opE ixD (vE 0) (vE 4))))) (blk [(sRet (kE .none))]) (blk [])), (sAsg (.nm 3) (ifE (trT (opE eqD (opE ixD (opE ixD (vE 0) (vE 4)) (kE (.int 1))) (vE 3))) (opE ixD (opE ixD (vE 0) (vE 4)) (kE (.int 0))) (opE ixD (opE ixD (vE 0) (vE 4)) (kE (.int 1)))))])), (sRet (vE 3))])
def F_bound_by : List D → Option D := dDef 3 5 B_bound_by
def B_is_vise : S :=
  (blk [(sIf (notT (trT (chE3 leD leD ltD (kE (.int 0)) (vE 1) (vE 2) (unE lenD (vE 0))))) (blk [(sRet (kE (.bool false)))]) (blk [])), (sIf (trT (opE eqD (vE 1) (vE 2))) (blk [(sRet (opE eqD (unE lenD (opE ixD (vE 0) (vE 1))) (kE (.int 0))))]) (blk [])), (sIf (orT (trT (opE neD (unE lenD (opE ixD (vE 0) (vE 1))) (kE (.int 1)))) (trT (opE neD (unE lenD (opE ixD (vE 0) (vE 2))) (kE (.int 1))))) (blk [(sRet (kE (.bool false)))]) (blk [])), (sRet (opE eqD (callE F_bound_by [(vE 0), (vE 1), (opE subD (vE 2) (kE (.int 1)))]) (opE ixD (opE ixD (vE 0) (vE 2)) (kE (.int 0)))))])
def F_is_vise : List D → Option D := dDef 3 3 B_is_vise
def B_told_vise : S :=
  (blk [(sFor (rgI (kE (.int 0)) (unE lenD (vE 0))) (.nm 1) (blk [(sFor (rgI (vE 1) (unE lenD (vE 0))) (.nm 2) (blk [(sIf (trT (callE F_is_vise [(vE 0), (vE 1), (vE 2)])) (blk [(sRet (tupE [(vE 1), (vE 2)]))]) (blk []))]))])), (sRet (kE .none))])
def F_told_vise : List D → Option D := dDef 1 3 B_told_vise
def B_number_of_duties : S :=
  (blk [(sIf (trT (opE eqD (unE lenD (vE 0)) (kE (.int 0)))) (blk [(sRet (kE (.int 1)))]) (blk [])), (sAsg (.nm 1) (opE ixD (callE F_ways_behind [(vE 0)]) (kE (.int 0)))), (sRet (unE sumD (lstI (compI [2] (keysI (vE 1)) (.nm 2) noT (opE ixD (vE 1) (vE 2))))))])
def F_number_of_duties : List D → Option D := dDef 1 3 B_number_of_duties
def B_free_wardens : S :=
  (blk [(sAsg (.nm 2) (opE ixD (callE F_ways_behind [(cutE (vE 0) (some (vE 1)) none)]) (kE (.int 0)))), (sAsg (.nm 3) (opE ixD (callE F_ways_behind [(backE (vE 0) (some (vE 1)))]) (kE (.int 0)))), (sRet (tupI (seqI (lstI (compI [4] (seqI (opE ixD (vE 0) (vE 1))) (.nm 4) (andT (trT (opE gtD (opE ixD (vE 2) (vE 4)) (kE (.int 0)))) (trT (opE gtD (opE ixD (vE 3) (vE 4)) (kE (.int 0))))) (vE 4))))))])
def F_free_wardens : List D → Option D := dDef 2 5 B_free_wardens
def B_reached_from : S :=
  (blk [(sOwn 3 (dcompE [7] (seqI (vE 2)) (.nm 7) noT (vE 7) (kE (.bool true)))), (sFor (rgI (kE (.int 0)) (vE 0)) (.nm 4) (blk [(sFor (seqI (vE 1)) (.tp [(.nm 5), (.nm 6)]) (blk [(sIf (trT (opE inD (vE 5) (bE 3))) (blk [(sPut 3 (vE 6) (kE (.bool true)))]) (blk []))]))])), (sRet (bE 3))])
def F_reached_from : List D → Option D := dDef 3 8 B_reached_from
def B_alive_cells : S :=
  (blk [(sRet (tupI (seqI (unE sortKD (callE F_reached_from [(vE 0), (vE 1), (vE 2)])))))])
def F_alive_cells : List D → Option D := dDef 3 3 B_alive_cells
def B_all_sets : S :=
  (blk [(sAsg (.nm 1) (lstE [(tupE [])])), (sFor (rgI (kE (.int 0)) (vE 0)) (.nm 2) (blk [(sAsg (.nm 1) (opE addD (vE 1) (lstI (compI [3] (seqI (vE 1)) (.nm 3) noT (opE addD (vE 3) (tupE [(vE 2)]))))))])), (sRet (unE sortLD (vE 1)))])
def F_all_sets : List D → Option D := dDef 1 4 B_all_sets
def B_are_met : S :=
  (blk [(sRet (allE [2, 3] (seqI (vE 0)) (.tp [(.nm 2), (.nm 3)]) noT (opE inD (opE ixD (vE 1) (vE 2)) (vE 3))))])
def F_are_met : List D → Option D := dDef 2 4 B_are_met
def B_is_choice : S :=
  (blk [(sIf (trT (opE neD (unE lenD (vE 2)) (unE lenD (vE 0)))) (blk [(sRet (kE (.bool false)))]) (blk [])), (sIf (notT (trT (allE [3, 4] (zipI (vE 2) (vE 0)) (.tp [(.nm 3), (.nm 4)]) noT (chE leD ltD (unE negD (kE (.int 1))) (vE 3) (unE lenD (vE 4)))))) (blk [(sRet (kE (.bool false)))]) (blk [])), (sIf (notT (trT (callE F_are_met [(vE 1), (vE 2)]))) (blk [(sRet (kE (.bool false)))]) (blk [])), (sRet (allE [3, 4] (zipI (vE 2) (vE 0)) (.tp [(.nm 3), (.nm 4)]) noT (orE (opE eqD (vE 3) (unE negD (kE (.int 1)))) (callE F_are_met [(opE ixD (vE 4) (vE 3)), (vE 2)]))))])
def F_is_choice : List D → Option D := dDef 3 5 B_is_choice
def B_choices_from (rec : List D → Option D) : S :=
  (blk [(sIf (trT (opE eqD (unE lenD (vE 2)) (unE lenD (vE 0)))) (blk [(sRet (ifE (trT (callE F_is_choice [(vE 0), (vE 1), (vE 2)])) (lstE [(vE 2)]) (lstE [])))]) (blk [])), (sOwn 3 (lstE [])), (sFor (rgDownI (opE subD (unE lenD (opE ixD (vE 0) (unE lenD (vE 2)))) (kE (.int 1))) (unE negD (kE (.int 2)))) (.nm 4) (blk [(sExt 3 (seqI (callE rec [(vE 0), (vE 1), (opE addD (vE 2) (tupE [(vE 4)]))])))])), (sRet (bE 3))])
def R_choices_from : Nat → List D → Option D
  | 0 => fun _ => none
  | n + 1 => dDef 3 5 (B_choices_from (R_choices_from n))
def F_choices_from : List D → Option D := R_choices_from 30
def B_told_choice : S :=
  (blk [(sAsg (.nm 2) (callE F_choices_from [(vE 0), (vE 1), (tupE [])])), (sRet (ifE (trT (vE 2)) (opE ixD (vE 2) (kE (.int 0))) (kE .none)))])
def F_told_choice : List D → Option D := dDef 2 3 B_told_choice
def B_number_of_choices : S :=
  (blk [(sRet (unE lenD (callE F_choices_from [(vE 0), (vE 1), (tupE [])])))])
def F_number_of_choices : List D → Option D := dDef 2 2 B_number_of_choices
def B_has_choice : S :=
  (blk [(sRet (unE notND (callE F_told_choice [(vE 0), (tupI (seqI (lstI (compI [3] (seqI (vE 2)) (.nm 3) noT (opE ixD (vE 1) (vE 3))))))])))])
def F_has_choice : List D → Option D := dDef 3 4 B_has_choice
def B_told_quarrel : S :=
  (blk [(sFor (seqI (callE F_all_sets [(unE lenD (vE 1))])) (.nm 2) (blk [(sAsg (.nm 3) (lstI (compI [4] (seqI (vE 2)) (.nm 4) noT (tupI (seqI (lstI (compI [5] (seqI (vE 2)) (.nm 5) (trT (opE neD (vE 5) (vE 4))) (vE 5)))))))), (sIf (andT (notT (trT (callE F_has_choice [(vE 0), (vE 1), (vE 2)]))) (trT (allE [6] (seqI (vE 3)) (.nm 6) noT (callE F_has_choice [(vE 0), (vE 1), (vE 6)])))) (blk [(sRet (vE 2))]) (blk []))])), (sRet (kE .none))])
def F_told_quarrel : List D → Option D := dDef 2 7 B_told_quarrel
def B__law_cell : S :=
  (blk [(sIf (trT (opE ltD (vE 1) (unE lenD (vE 0)))) (blk [(sRet (opE ixD (vE 0) (vE 1)))]) (blk [])), (sRet (opE addD (opE mulI (kE (.int 5)) (vE 1)) (kE (.int 3))))])
def F__law_cell : List D → Option D := dDef 2 2 B__law_cell
def B__law_draws : S :=
  (blk [(sAsg (.nm 2) (unE absD (unE intD (vE 0)))), (sAsg (.nm 3) (opE geD (vE 2) (opE powD (kE (.int 10)) (kE (.int 18))))), (sAsg (.nm 4) (vE 2)), (sOwn 5 (lstE [])), (sFor (rgI (kE (.int 0)) (vE 1)) (.nm 6) (blk [(sIf (andT (trT (vE 3)) (trT (opE gtD (vE 2) (kE (.int 0))))) (blk [(sApp 5 (opE modD (unE intD (vE 2)) (kE (.int 5040)))), (sAsg (.nm 2) (opE fdivD (vE 2) (kE (.int 5040))))]) (blk [(sAsg (.nm 7) (opE modD (unE intD (opE addD (opE addD (opE mulI (vE 4) (kE (.int 48271))) (opE mulI (opE addD (vE 6) (kE (.int 1))) (kE (.int 69621)))) (kE (.int 11)))) (kE (.int 2147483647)))), (sAsg (.nm 7) (opE modD (unE intD (opE addD (opE mulI (vE 7) (vE 7)) (opE mulI (kE (.int 40692)) (opE addD (vE 6) (kE (.int 3)))))) (kE (.int 2147483399)))), (sApp 5 (opE modD (unE intD (opE fdivD (vE 7) (kE (.int 64)))) (kE (.int 5040))))]))])), (sRet (bE 5))])
def F__law_draws : List D → Option D := dDef 2 8 B__law_draws
def B__law_is_integer : S :=
  (blk [(sRet (andE (unE (isiD .int) (vE 0)) (notE (unE (isiD .bool) (vE 0)))))])
def F__law_is_integer : List D → Option D := dDef 1 1 B__law_is_integer
def B__law_is (rec : List D → Option D) : S :=
  (blk [(sIf (trT (unE isND (vE 1))) (blk [(sRet (unE isND (vE 0)))]) (blk [])), (sIf (trT (unE (isiD .bool) (vE 1))) (blk [(sRet (andE (unE (isiD .bool) (vE 0)) (opE eqD (vE 0) (vE 1))))]) (blk [])), (sIf (trT (unE (isiD .int) (vE 1))) (blk [(sRet (andE (callE F__law_is_integer [(vE 0)]) (opE eqD (vE 0) (vE 1))))]) (blk [])), (sIf (trT (unE (isiD .str) (vE 1))) (blk [(sRet (andE (unE (isiD .str) (vE 0)) (opE eqD (vE 0) (vE 1))))]) (blk [])), (sIf (orT (notT (trT (unE (isiD .tup) (vE 0)))) (trT (opE neD (unE lenD (vE 0)) (unE lenD (vE 1))))) (blk [(sRet (kE (.bool false)))]) (blk [])), (sRet (unE allLD (lstI (compI [2] (rgI (kE (.int 0)) (unE lenD (vE 1))) (.nm 2) noT (callE rec [(opE ixD (vE 0) (vE 2)), (opE ixD (vE 1) (vE 2))])))))])
def R__law_is : Nat → List D → Option D
  | 0 => fun _ => none
  | n + 1 => dDef 2 3 (B__law_is (R__law_is n))
def F__law_is : List D → Option D := R__law_is 30
def B__law_is_integers : S :=
  (blk [(sRet (andE (unE (isiD .tup) (vE 0)) (unE allLD (lstI (compI [1] (seqI (vE 0)) (.nm 1) noT (callE F__law_is_integer [(vE 1)]))))))])
def F__law_is_integers : List D → Option D := dDef 1 2 B__law_is_integers
def B__law_duties : S :=
  (blk [(sAsg (.nm 1) (lstE [(tupE [])])), (sFor (seqI (vE 0)) (.nm 2) (blk [(sAsg (.nm 3) (lstE [])), (sFor (seqI (vE 1)) (.nm 4) (blk [(sAsg (.nm 3) (opE addD (vE 3) (lstI (compI [5] (seqI (vE 2)) (.nm 5) (trT (opE ninD (vE 5) (cutE (vE 4) (some (unE negD (kE (.int 1)))) none))) (opE addD (vE 4) (tupE [(vE 5)]))))))])), (sAsg (.nm 1) (vE 3))])), (sRet (vE 1))])
def F__law_duties : List D → Option D := dDef 1 6 B__law_duties
def B__law_parcels : S :=
  (blk [(sAsg (.nm 1) (tupE [])), (sFor (rgI (kE (.int 0)) (unE lenD (vE 0))) (.nm 2) (blk [(sAsg (.nm 3) (tupE [])), (sFor (seqI (backE (opE ixD (vE 0) (vE 2)) none)) (.nm 4) (blk [(sAsg (.nm 5) (ifE (trT (opE ltD (opE addD (vE 2) (kE (.int 1))) (unE lenD (vE 0)))) (backE (opE ixD (vE 0) (opE addD (vE 2) (kE (.int 1)))) none) (tupE []))), (sAsg (.nm 6) (tupI (seqI (lstI (compI [7] (rgI (kE (.int 0)) (unE lenD (vE 5))) (.nm 7) (trT (opE neD (opE ixD (vE 5) (vE 7)) (vE 4))) (vE 7)))))), (sAsg (.nm 3) (opE addD (vE 3) (tupE [(ifE (trT (opE ltD (opE addD (vE 2) (kE (.int 1))) (unE lenD (vE 0)))) (tupE [(tupE [(opE addD (vE 2) (kE (.int 1))), (ifE (trT (opE gtD (unE lenD (vE 6)) (kE (.int 0)))) (vE 6) (tupE [(kE (.int 9))]))])]) (tupE []))])))])), (sAsg (.nm 1) (opE addD (vE 1) (tupE [(vE 3)])))])), (sRet (vE 1))])
def F__law_parcels : List D → Option D := dDef 1 8 B__law_parcels
def B__law_numbers : S :=
  (blk [(sRet (tupI (seqI (lstI (compI [2] (rgI (kE (.int 0)) (unE lenD (vE 0))) (.nm 2) noT (ifE (trT (opE inD (opE ixD (vE 1) (vE 2)) (opE ixD (vE 0) (vE 2)))) (opE tixD (backE (opE ixD (vE 0) (vE 2)) none) (opE ixD (vE 1) (vE 2))) (opE subD (kE (.int 0)) (kE (.int 1)))))))))])
def F__law_numbers : List D → Option D := dDef 2 3 B__law_numbers
def B__law_alive : S :=
  (blk [(sAsg (.nm 2) (lstI (seqI (vE 1)))), (sFor (rgI (kE (.int 0)) (kE (.int 9))) (.nm 3) (blk [(sAsg (.nm 2) (opE addD (vE 2) (unE sortSetD (lstI (compI [4, 5] (seqI (vE 0)) (.tp [(.nm 4), (.nm 5)]) (andT (trT (opE inD (vE 4) (vE 2))) (trT (opE ninD (vE 5) (vE 2)))) (vE 5))))))])), (sRet (tupI (seqI (unE sortLD (vE 2)))))])
def F__law_alive : List D → Option D := dDef 2 6 B__law_alive
def B__law_celled : S :=
  (blk [(sAsg (.nm 2) (lstE [])), (sFor (rgI (kE (.int 0)) (unE lenD (vE 0))) (.nm 3) (blk [(sAsg (.nm 2) (opE addD (vE 2) (lstI (compI [12] (seqI (opE ixD (vE 0) (vE 3))) (.nm 12) noT (tupE [(vE 3), (vE 12)])))))])), (sAsg (.nm 4) (lstE [])), (sFor (rgI (kE (.int 0)) (unE lenD (vE 2))) (.nm 3) (blk [(sAsg (.nm 4) (opE addD (vE 4) (lstI (compI [13] (rgI (kE (.int 0)) (unE lenD (vE 2))) (.nm 13) (andT (trT (opE eqD (opE ixD (opE ixD (vE 2) (vE 13)) (kE (.int 0))) (opE addD (opE ixD (opE ixD (vE 2) (vE 3)) (kE (.int 0))) (kE (.int 1))))) (trT (opE neD (opE ixD (opE ixD (vE 2) (vE 13)) (kE (.int 1))) (opE ixD (opE ixD (vE 2) (vE 3)) (kE (.int 1)))))) (tupE [(vE 3), (vE 13)])))))])), (sAsg (.nm 5) (tupI (seqI (unE sortLD (lstI (compI [3, 13] (seqI (vE 4)) (.tp [(.nm 3), (.nm 13)]) noT (tupE [(vE 13), (vE 3)]))))))), (sAsg (.nm 6) (tupI (seqI (lstI (compI [3] (rgI (kE (.int 0)) (unE lenD (vE 2))) (.nm 3) (trT (opE eqD (opE ixD (opE ixD (vE 2) (vE 3)) (kE (.int 0))) (kE (.int 0)))) (vE 3)))))), (sAsg (.nm 7) (tupI (seqI (lstI (compI [3] (rgI (kE (.int 0)) (unE lenD (vE 2))) (.nm 3) (trT (opE eqD (opE ixD (opE ixD (vE 2) (vE 3)) (kE (.int 0))) (opE subD (unE lenD (vE 0)) (kE (.int 1))))) (vE 3)))))), (sAsg (.nm 8) (callE F_alive_cells [(unE lenD (vE 2)), (tupI (seqI (vE 4))), (vE 6)])), (sAsg (.nm 9) (callE F_alive_cells [(unE lenD (vE 2)), (vE 5), (vE 7)])), (sIf (orT (notT (trT (callE F__law_is [(vE 8), (callE F__law_alive [(vE 4), (vE 6)])]))) (notT (trT (callE F__law_is [(vE 9), (callE F__law_alive [(vE 5), (vE 7)])])))) (blk [(sRet (kE (.bool false)))]) (blk [])), (sIf (andT (trT (opE gtD (unE lenD (vE 0)) (kE (.int 0)))) (trT (opE neD (opE gtD (unE lenD (lstI (compI [3] (seqI (vE 7)) (.nm 3) (trT (opE inD (vE 3) (vE 8))) (vE 3)))) (kE (.int 0))) (opE gtD (unE lenD (vE 1)) (kE (.int 0)))))) (blk [(sRet (kE (.bool false)))]) (blk [])), (sFor (rgI (kE (.int 0)) (unE lenD (vE 0))) (.nm 10) (blk [(sAsg (.nm 11) (tupI (seqI (lstI (compI [3] (seqI (vE 8)) (.nm 3) (andT (trT (opE inD (vE 3) (vE 9))) (trT (opE eqD (opE ixD (opE ixD (vE 2) (vE 3)) (kE (.int 0))) (vE 10)))) (opE ixD (opE ixD (vE 2) (vE 3)) (kE (.int 1)))))))), (sIf (orT (notT (trT (callE F__law_is [(callE F_free_wardens [(vE 0), (vE 10)]), (vE 11)]))) (trT (opE neD (lstI (seqI (vE 11))) (unE sortSetD (lstI (compI [14] (seqI (vE 1)) (.nm 14) noT (opE ixD (vE 14) (vE 10)))))))) (blk [(sRet (kE (.bool false)))]) (blk []))])), (sRet (kE (.bool true)))])
def F__law_celled : List D → Option D := dDef 2 15 B__law_celled
def B__law_vised : S :=
  (blk [(sAsg (.nm 2) (callE F_told_vise [(vE 0)])), (sIf (trT (opE gtD (unE lenD (vE 1)) (kE (.int 0)))) (blk [(sRet (unE isND (vE 2)))]) (blk [])), (sIf (orT (notT (trT (callE F__law_is_integers [(vE 2)]))) (orT (trT (opE neD (unE lenD (vE 2)) (kE (.int 2)))) (notT (trT (chE3 leD leD ltD (kE (.int 0)) (opE ixD (vE 2) (kE (.int 0))) (opE ixD (vE 2) (kE (.int 1))) (unE lenD (vE 0))))))) (blk [(sRet (kE (.bool false)))]) (blk [])), (sAsg (.tp [(.nm 3), (.nm 4)]) (vE 2)), (sIf (trT (opE eqD (vE 3) (vE 4))) (blk [(sRet (opE eqD (opE ixD (vE 0) (vE 3)) (tupE [])))]) (blk [])), (sAsg (.nm 5) (cutE (vE 0) (some (vE 3)) (some (opE addD (vE 4) (kE (.int 1)))))), (sIf (orT (trT (opE neD (unE lenD (opE ixD (vE 5) (kE (.int 0)))) (kE (.int 1)))) (orT (trT (opE neD (unE lenD (opE ixD (vE 5) (unE negD (kE (.int 1))))) (kE (.int 1)))) (notT (trT (unE allLD (lstI (compI [7] (seqI (cutE (vE 5) (some (kE (.int 1))) (some (unE negD (kE (.int 1)))))) (.nm 7) noT (opE eqD (unE lenD (vE 7)) (kE (.int 2)))))))))) (blk [(sRet (kE (.bool false)))]) (blk [])), (sIf (orT (trT (opE gtD (unE lenD (callE F__law_duties [(vE 5)])) (kE (.int 0)))) (orT (notT (trT (callE F__law_is [(callE F_number_of_duties [(vE 5)]), (kE (.int 0))]))) (trT (unE notND (callE F_told_duty [(vE 5)]))))) (blk [(sRet (kE (.bool false)))]) (blk [])), (sFor (seqI (lstE [(cutE (vE 5) (some (kE (.int 1))) none), (cutE (vE 5) none (some (unE negD (kE (.int 1)))))])) (.nm 6) (blk [(sIf (orT (trT (opE neD (unE lenD (callE F__law_duties [(vE 6)])) (kE (.int 1)))) (orT (notT (trT (callE F__law_is [(callE F_number_of_duties [(vE 6)]), (kE (.int 1))]))) (trT (unE notND (callE F_told_vise [(vE 6)]))))) (blk [(sRet (kE (.bool false)))]) (blk []))])), (sRet (kE (.bool true)))])
def F__law_vised : List D → Option D := dDef 2 8 B__law_vised
def B__law_chosen : S :=
  (blk [(sAsg (.nm 3) (callE F__law_parcels [(vE 0)])), (sAsg (.nm 4) (tupI (seqI (lstI (compI [8] (rgI (kE (.int 0)) (unE lenD (vE 0))) (.nm 8) noT (tupE [(vE 8), (tupI (rgI' (kE (.int 0)) (unE lenD (opE ixD (vE 0) (vE 8)))))])))))), (sAsg (.nm 5) (ifE (trT (opE gtD (unE lenD (vE 1)) (kE (.int 0)))) (callE F__law_numbers [(vE 0), (opE ixD (vE 1) (kE (.int 0)))]) (kE .none))), (sIf (orT (notT (trT (callE F__law_is [(callE F_told_choice [(vE 3), (vE 4)]), (vE 5)]))) (notT (trT (callE F__law_is [(callE F_number_of_choices [(vE 3), (vE 4)]), (unE lenD (vE 1))])))) (blk [(sRet (kE (.bool false)))]) (blk [])), (sFor (rgI (kE (.int 0)) (kE (.int 5))) (.nm 6) (blk [(sAsg (.nm 7) (tupE [])), (sFor (rgI (kE (.int 0)) (unE lenD (vE 0))) (.nm 8) (blk [(sAsg (.nm 7) (opE addD (vE 7) (tupE [(opE ixD (opE ixD (vE 0) (vE 8)) (opE modD (unE intD (opE fdivD (opE ixD (vE 2) (vE 6)) (opE ixD (tupE [(kE (.int 1)), (kE (.int 2)), (kE (.int 3)), (kE (.int 5)), (kE (.int 7))]) (vE 8)))) (unE lenD (opE ixD (vE 0) (vE 8)))))])))])), (sIf (andT (trT (opE eqD (vE 6) (kE (.int 0)))) (trT (opE gtD (unE lenD (vE 1)) (kE (.int 0))))) (blk [(sAsg (.nm 7) (opE ixD (vE 1) (opE modD (unE intD (opE ixD (vE 2) (kE (.int 5)))) (unE lenD (vE 1)))))]) (blk [])), (sIf (andT (trT (opE eqD (vE 6) (kE (.int 1)))) (andT (trT (opE gtD (unE lenD (vE 1)) (kE (.int 0)))) (trT (opE gtD (unE lenD (vE 0)) (kE (.int 0)))))) (blk [(sAsg (.nm 9) (opE modD (unE intD (opE ixD (vE 2) (kE (.int 6)))) (opE max2 (kE (.int 1)) (unE lenD (vE 0))))), (sAsg (.nm 7) (opE addD (opE addD (cutE (opE ixD (vE 1) (unE negD (kE (.int 1)))) none (some (vE 9))) (tupE [(kE (.int 9))])) (cutE (opE ixD (vE 1) (unE negD (kE (.int 1)))) (some (opE addD (vE 9) (kE (.int 1)))) none)))]) (blk [])), (sAsg (.nm 10) (opE inD (vE 7) (vE 1))), (sAsg (.nm 11) (callE F__law_numbers [(vE 0), (vE 7)])), (sIf (orT (notT (trT (callE F__law_is [(callE F_is_duty [(vE 0), (vE 7)]), (vE 10)]))) (notT (trT (callE F__law_is [(callE F_is_choice [(vE 3), (vE 4), (vE 11)]), (vE 10)])))) (blk [(sRet (kE (.bool false)))]) (blk []))])), (sAsg (.nm 12) (kE (.int 1))), (sFor (seqI (vE 0)) (.nm 13) (blk [(sAsg (.nm 12) (opE mulI (vE 12) (opE addD (unE lenD (vE 13)) (kE (.int 1)))))])), (sIf (orT (trT (opE gtD (vE 12) (kE (.int 100)))) (trT (opE eqD (unE lenD (vE 0)) (kE (.int 0))))) (blk [(sRet (kE (.bool true)))]) (blk [])), (sRet (callE F__law_is [(callE F_told_quarrel [(vE 3), (vE 4)]), (ifE (trT (opE gtD (unE lenD (vE 1)) (kE (.int 0)))) (kE .none) (tupE [(kE (.int 0))]))]))])
def F__law_chosen : List D → Option D := dDef 3 14 B__law_chosen
def B__law_asked : S :=
  (blk [(sAsg (.nm 2) (callE F__law_duties [(vE 0)])), (sIf (orT (notT (trT (callE F__law_is [(callE F_number_of_duties [(vE 0)]), (unE lenD (vE 2))]))) (notT (trT (callE F__law_is [(callE F_told_duty [(vE 0)]), (ifE (trT (opE gtD (unE lenD (vE 2)) (kE (.int 0)))) (opE ixD (vE 2) (kE (.int 0))) (kE .none))])))) (blk [(sRet (kE (.bool false)))]) (blk [])), (sIf (orT (notT (trT (callE F__law_celled [(vE 0), (vE 2)]))) (notT (trT (callE F__law_vised [(vE 0), (vE 2)])))) (blk [(sRet (kE (.bool false)))]) (blk [])), (sIf (trT (opE gtD (unE lenD (lstI (compI [3] (seqI (vE 0)) (.nm 3) (trT (opE eqD (vE 3) (tupE []))) (kE (.int 1))))) (kE (.int 0)))) (blk [(sRet (callE F__law_is [(callE F_is_duty [(vE 0), (opE repT (tupE [(kE (.int 0))]) (unE lenD (vE 0)))]), (kE (.bool false))]))]) (blk [])), (sRet (callE F__law_chosen [(vE 0), (vE 2), (vE 1)]))])
def F__law_asked : List D → Option D := dDef 2 4 B__law_asked
def B_law : S :=
  (blk [(sAsg (.nm 1) (callE F__law_draws [(callE F__law_cell [(vE 0), (kE (.int 0))]), (kE (.int 16))])), (sIf (orT (notT (trT (callE F__law_asked [(tupE [(tupE [(kE (.int 1))]), (tupE [(kE (.int 1)), (kE (.int 2))]), (tupE [(kE (.int 0)), (kE (.int 2))]), (tupE [(kE (.int 0))])]), (vE 1)]))) (notT (trT (callE F__law_asked [(tupE [(tupE [(kE (.int 0)), (kE (.int 1))]), (tupE [(kE (.int 1)), (kE (.int 2))]), (tupE [(kE (.int 0)), (kE (.int 1))])]), (vE 1)])))) (blk [(sRet (kE (.bool false)))]) (blk [])), (sIf (notT (trT (callE F__law_asked [(tupE [(tupE [(kE (.int 0))]), (tupE []), (tupE [(kE (.int 1))])]), (vE 1)]))) (blk [(sRet (kE (.bool false)))]) (blk [])), (sFor (rgI (kE (.int 0)) (kE (.int 2))) (.nm 2) (blk [(sAsg (.nm 3) (callE F__law_draws [(callE F__law_cell [(vE 0), (opE addD (kE (.int 1)) (vE 2))]), (kE (.int 10))])), (sAsg (.nm 4) (tupE [])), (sFor (rgI (kE (.int 0)) (opE ixD (tupE [(kE (.int 5)), (kE (.int 4)), (kE (.int 5)), (kE (.int 3)), (kE (.int 0)), (kE (.int 1))]) (opE modD (unE intD (opE ixD (vE 1) (opE addD (kE (.int 8)) (vE 2)))) (kE (.int 6))))) (.nm 5) (blk [(sAsg (.nm 6) (unE intD (opE ixD (vE 3) (vE 5)))), (sAsg (.nm 7) (opE ixD (tupE [(kE (.int 2)), (kE (.int 1)), (kE (.int 2)), (kE (.int 3)), (kE (.int 1)), (kE (.int 2)), (kE (.int 0))]) (opE modD (vE 6) (kE (.int 7))))), (sAsg (.nm 8) (lstI (compI [10] (rgI (kE (.int 0)) (vE 7)) (.nm 10) noT (opE modD (unE intD (opE addD (opE fdivD (vE 6) (kE (.int 7))) (opE mulI (vE 10) (opE addD (kE (.int 1)) (opE modD (opE fdivD (vE 6) (kE (.int 70))) (kE (.int 2))))))) (kE (.int 4)))))), (sAsg (.nm 9) (opE subD (kE (.int 8)) (unE sumD (lstI (compI [11] (seqI (vE 4)) (.nm 11) noT (unE lenD (vE 11))))))), (sAsg (.nm 4) (opE addD (vE 4) (tupE [(cutE (tupI (seqI (unE sortSetD (vE 8)))) none (some (vE 9)))])))])), (sIf (notT (trT (callE F__law_asked [(vE 4), (cutE (vE 1) (some (opE addD (kE (.int 2)) (vE 2))) none)]))) (blk [(sRet (kE (.bool false)))]) (blk []))])), (sRet (kE (.bool true)))])
def F_law : List D → Option D := dDef 1 12 B_law
end Dm
end

section
set_option Elab.async false
set_option linter.all false
set_option maxRecDepth 100000
set_option maxHeartbeats 4000000
namespace Rwd
open PySem PySem.Spec PyProof.Rows L2
def topS (i : Nat) : Stmt := PySem.Challenge.pw_runwarden_k93_whole_weeks_as_parcels.main.body.getD i (.Pass ⟨0, 0, 0, 0⟩)
abbrev s_is_duty : Stmt := topS 1
abbrev s_ways_behind : Stmt := topS 2
abbrev s_told_duty : Stmt := topS 3
abbrev s_bound_by : Stmt := topS 4
abbrev s_is_vise : Stmt := topS 5
abbrev s_told_vise : Stmt := topS 6
abbrev s_number_of_duties : Stmt := topS 7
abbrev s_free_wardens : Stmt := topS 8
abbrev s_reached_from : Stmt := topS 10
abbrev s_alive_cells : Stmt := topS 11
abbrev s_all_sets : Stmt := topS 13
abbrev s_are_met : Stmt := topS 15
abbrev s_is_choice : Stmt := topS 16
abbrev s_choices_from : Stmt := topS 17
abbrev s_told_choice : Stmt := topS 18
abbrev s_number_of_choices : Stmt := topS 19
abbrev s_has_choice : Stmt := topS 20
abbrev s_told_quarrel : Stmt := topS 21
abbrev s__law_cell : Stmt := topS 23
abbrev s__law_draws : Stmt := topS 24
abbrev s__law_is_integer : Stmt := topS 25
abbrev s__law_is : Stmt := topS 26
abbrev s__law_is_integers : Stmt := topS 27
abbrev s__law_duties : Stmt := topS 28
abbrev s__law_parcels : Stmt := topS 29
abbrev s__law_numbers : Stmt := topS 30
abbrev s__law_alive : Stmt := topS 31
abbrev s__law_celled : Stmt := topS 32
abbrev s__law_vised : Stmt := topS 33
abbrev s__law_chosen : Stmt := topS 34
abbrev s__law_asked : Stmt := topS 35
abbrev s_law : Stmt := topS 36
def dD (x : Str) (st : Stmt) : He.DefD := ⟨(x, none), x, x, defArgs st, defBody st, defScope st, [], []⟩
def fn0 : List He.DefD := [dD "is_duty" s_is_duty, dD "ways_behind" s_ways_behind, dD "told_duty" s_told_duty, dD "bound_by" s_bound_by, dD "is_vise" s_is_vise, dD "told_vise" s_told_vise, dD "number_of_duties" s_number_of_duties, dD "free_wardens" s_free_wardens, dD "reached_from" s_reached_from, dD "alive_cells" s_alive_cells, dD "all_sets" s_all_sets, dD "are_met" s_are_met, dD "is_choice" s_is_choice, dD "choices_from" s_choices_from, dD "told_choice" s_told_choice, dD "number_of_choices" s_number_of_choices, dD "has_choice" s_has_choice, dD "told_quarrel" s_told_quarrel, dD "_law_cell" s__law_cell, dD "_law_draws" s__law_draws, dD "_law_is_integer" s__law_is_integer, dD "_law_is" s__law_is, dD "_law_is_integers" s__law_is_integers, dD "_law_duties" s__law_duties, dD "_law_parcels" s__law_parcels, dD "_law_numbers" s__law_numbers, dD "_law_alive" s__law_alive, dD "_law_celled" s__law_celled, dD "_law_vised" s__law_vised, dD "_law_chosen" s__law_chosen]
def fn1 : List He.DefD := [dD "_law_asked" s__law_asked, dD "law" s_law]
def fn : List He.DefD := fn0 ++ fn1
def fa0 : List He.Fa := [.glo "is_duty", .glo "ways_behind", .glo "told_duty", .glo "bound_by", .glo "is_vise", .glo "told_vise", .glo "number_of_duties", .glo "free_wardens", .glo "reached_from", .glo "alive_cells", .glo "all_sets", .glo "are_met", .glo "is_choice", .glo "choices_from", .glo "told_choice", .glo "number_of_choices", .glo "has_choice", .glo "told_quarrel", .glo "_law_cell", .glo "_law_draws", .glo "_law_is_integer", .glo "_law_is", .glo "_law_is_integers", .glo "_law_duties", .glo "_law_parcels", .glo "_law_numbers", .glo "_law_alive", .glo "_law_celled", .glo "_law_vised", .glo "_law_chosen"]
def fa1 : List He.Fa := [.glo "_law_asked", .glo "law", .free "abs", .free "all", .free "bool", .free "int", .free "isinstance", .free "len", .free "list", .free "max", .free "range", .free "reversed", .free "set", .free "sorted", .free "str", .free "sum", .free "tuple", .free "zip"]
def fa : List He.Fa := fa0 ++ fa1
def tf : List He.Defn := [("is_duty", none), ("are_met", none), ("is_choice", none), ("told_quarrel", none)]
abbrev R : PySem.W.OpenRow := PySem.W.OpenLaw.row PySem.Challenge.rw_runwarden_k93_whole_weeks_as_parcels
abbrev hk : PySem.W.Hook := He.hookX 4 fa fn [] tf (fun _ => true)
def ob (s : PySem.W.SharedT) : He.AlX := He.obsX 4 fa fn [] tf (fun _ => true) (HandSHeadRun.getT s)
theorem ob_eq (s : PySem.W.SharedT) : ob s = hk.obs s.abs := He.obsX_eq (HandSHeadRun.getT_eq s)
def loose0 : List PySem.Str := ["is_duty", "ways_behind", "told_duty", "bound_by", "is_vise", "told_vise", "number_of_duties", "free_wardens", "reached_from", "alive_cells", "all_sets", "are_met", "is_choice", "choices_from", "told_choice", "number_of_choices", "has_choice", "told_quarrel", "_law_cell", "_law_draws", "_law_is_integer", "_law_is", "_law_is_integers", "_law_duties", "_law_parcels", "_law_numbers", "_law_alive", "_law_celled", "_law_vised", "_law_chosen"]
def loose1 : List PySem.Str := ["_law_asked"]
def loose : List PySem.Str := loose0 ++ loose1
theorem run (w : World) : HandSHeadRun.RunEq R (PySem.W.view R.prog [36]) hk ob 3000 loose w := by
  intro os
  kernel_rfl
open Dm
theorem u1 {k : Nat} {A : Around} (hr : Room k A) : A.units + 1 < cLine := by have := hr.un; omega
theorem u64 {k : Nat} {A : Around} (hr : Room k A) : A.units + 64 < cLine := by have := hr.un; omega
theorem u100 {k : Nat} {A : Around} (hr : Room k A) : A.units + 100 < cLine := by have := hr.un; omega
structure Bi (mg : Str → Option Value) : Prop where
  abs_ : mg "abs" = none
  all_ : mg "all" = none
  bool_ : mg "bool" = none
  int_ : mg "int" = none
  isinstance_ : mg "isinstance" = none
  len_ : mg "len" = none
  list_ : mg "list" = none
  max_ : mg "max" = none
  range_ : mg "range" = none
  reversed_ : mg "reversed" = none
  set_ : mg "set" = none
  sorted_ : mg "sorted" = none
  str_ : mg "str" = none
  sum_ : mg "sum" = none
  tuple_ : mg "tuple" = none
  zip_ : mg "zip" = none
section
variable {P : Program} {w : World} {K : PySem.W.Frag} {mg : Str → Option Value} {base : Heap} {T : List Addr}
theorem sc_is_duty : FnScope ["weeks", "wardens", "warden", "able", "at"] ["weeks", "wardens"] (defScope s_is_duty) := fnScope_by (by decide +kernel)
theorem ok_is_duty (B : Bi mg) {fa : Addr} {fd : FuncData} (Fn : FunD K "is_duty" "is_duty" (defArgs s_is_duty) (defBody s_is_duty) (defScope s_is_duty) [] [] fa fd) (hm : mg "is_duty" = some (.ref fa)) {c P0 : Addr} (hPT : P0 ∈ T) (TB : LamX.TabB base mg c P0) (hcd : fd.code = .ref c) : DefOk P w K mg base T "is_duty" 2 2 F_is_duty := by
  have hNd : (["weeks", "wardens", "warden", "able", "at"] : List Str).Nodup := by decide
  exact def_ok (k := 1) Fn hm sc_is_duty (by decide) (FunD.bindsN (ps := ["weeks", "wardens"]) Fn fun _ _ _ _ _ _ us hl => match us, hl with | [_, _], _ => rfl) fun A outer s H E hr =>
    (ss_cons (s_if (t_cmp (c_ne (u64 hr)) b_ne (e_toB (e_len B.len_ (e_toB (e_var 1)))) (e_toB (e_len B.len_ (e_toB (e_var 0)))) (nomark _)) (ss_cons (s_ret e_bl)
    ss_nil) ss_nil)
    (ss_cons (s_if (t_not (t_tru (e_toB (e_all hr B.all_ hPT TB hcd (genSc_by (by decide +kernel)) rfl hNd (i_zipQ B.zip_ (qs_e (a_cons (e_var 1) (a_cons (e_var 0) a_nil)))) (blkOk_by (own := [("warden", 2), ("able", 3)]) (by kernel_rfl)) (fun s H cl C code fp a go => (g_tp (gs_cons (g_nm 2 hNd) (gs_cons (g_nm 3 hNd) gs_nil)))) (fun s H cl C code fp a go => ts_nil) (fun s H cl C code fp a go => (fun hr => (e_cmp (c_in (u100 hr)) b_in (e_toB (e_var 2)) (e_toB (e_var 3)) (by rfl))) (room_gen hr)))))) (ss_cons (s_ret e_bl)
    ss_nil) ss_nil)
    (ss_cons (s_ret (e_all hr B.all_ hPT TB hcd (genSc_by (by decide +kernel)) rfl hNd (i_range1 (q := false) B.range_ (e_op o_sub (e_toB (e_len B.len_ (e_toB (e_var 1)))) (e_toB e_int))) (blkOk_by (own := [("at", 4)]) (by kernel_rfl)) (fun s H cl C code fp a go => (g_nm 4 hNd)) (fun s H cl C code fp a go => ts_nil) (fun s H cl C code fp a go => (fun hr => (e_cmp (c_ne (u64 hr)) b_ne (e_toB (e_ix (u1 hr) (e_toB (e_var 1)) (e_var 4))) (e_toB (e_ix (u1 hr) (e_toB (e_var 1)) (e_op o_add (e_toB (e_var 4)) (e_toB e_int)))) (nomark _))) (room_gen hr))))
    ss_nil)))
theorem sc_ways_behind : FnScope ["weeks", "behind", "able", "last", "ways", "warden", "other"] ["weeks"] (defScope s_ways_behind) := fnScope_by (by decide +kernel)
theorem ok_ways_behind (B : Bi mg) {fa : Addr} {fd : FuncData} (Fn : FunD K "ways_behind" "ways_behind" (defArgs s_ways_behind) (defBody s_ways_behind) (defScope s_ways_behind) [] [] fa fd) (hm : mg "ways_behind" = some (.ref fa)) : DefOk P w K mg base T "ways_behind" 1 1 F_ways_behind := by
  have hNd : (["weeks", "behind", "able", "last", "ways", "warden", "other"] : List Str).Nodup := by decide
  exact def_ok (k := 0) Fn hm sc_ways_behind (by decide) (FunD.bindsN (ps := ["weeks"]) Fn fun _ _ _ _ _ _ us hl => match us, hl with | [_], _ => rfl) fun A outer s H E hr =>
    (ss_cons (s_own 1 (f_lst a_nil) hNd)
    (ss_cons (s_for PassesOwn.never rfl (i_rev B.reversed_ (q_e (e_var 0))) (g_nm 2 hNd) (ss_cons (s_set 3 (e_if (t_tru (e_own 1)) (e_ix (u1 hr) (e_own 1) (e_neg e_int)) e_non) hNd)
    (ss_cons (s_own 4 f_d0 hNd)
    (ss_cons (s_for PassesOwn.never rfl (i_seq (q_e (e_var 2))) (g_nm 5 hNd) (ss_cons (s_if (t_isN (e_toB (e_var 3))) (ss_cons (s_put 4 (u1 hr) (e_var 5) e_int)
    ss_nil) (ss_cons (s_put 4 (u1 hr) (e_var 5) (e_sum B.sum_ (e_toB (e_new (f_lcK 3 rfl hNd (blkOk_by (own := [("other", 6)]) (by kernel_rfl)) (fun s H C cl fp => (g_nm 6 hNd)) (fun s H C cl fp => (ts_one (t_cmp (c_ne (u64 hr)) b_ne (e_toB (e_var 6)) (e_toB (e_var 5)) (nomark _)))) (fun s H C cl fp => (e_ix (u1 hr) (e_toB (e_var 3)) (e_var 6))))))))
    ss_nil))
    ss_nil))
    (ss_cons (s_appMv 1 4)
    ss_nil)))))
    (ss_cons (s_ret (e_back (e_own 1) so_none))
    ss_nil)))
theorem sc_told_duty : FnScope ["weeks", "duty", "ways", "able", "warden"] ["weeks"] (defScope s_told_duty) := fnScope_by (by decide +kernel)
theorem ok_told_duty (B : Bi mg) (G_ways_behind : DefOk P w K mg base T "ways_behind" 1 1 F_ways_behind) {fa : Addr} {fd : FuncData} (Fn : FunD K "told_duty" "told_duty" (defArgs s_told_duty) (defBody s_told_duty) (defScope s_told_duty) [] [] fa fd) (hm : mg "told_duty" = some (.ref fa)) : DefOk P w K mg base T "told_duty" 2 1 F_told_duty := by
  have hNd : (["weeks", "duty", "ways", "able", "warden"] : List Str).Nodup := by decide
  exact def_ok (k := 1) Fn hm sc_told_duty (by decide) (FunD.bindsN (ps := ["weeks"]) Fn fun _ _ _ _ _ _ us hl => match us, hl with | [_], _ => rfl) fun A outer s H E hr =>
    (ss_cons (s_set 1 (e_tup a_nil) hNd)
    (ss_cons (s_for PassesOwn.never rfl (i_seq (q_e (e_call G_ways_behind hr (a_cons (e_var 0) a_nil) (by decide)))) (g_nm 2 hNd) (ss_cons (s_setLc 3 rfl hNd (i_seq (q_e (e_new (f_sortK B.sorted_ (e_toB (e_var 2)))))) (blkOk_by (own := [("warden", 4)]) (by kernel_rfl)) (fun s H C cl fp => (g_nm 4 hNd)) (fun s H C cl fp => (ts_one (t_bool (t_and (t_cmp (c_gt (u64 hr)) b_gt (e_toB (e_ix (u1 hr) (e_toB (e_var 2)) (e_var 4))) (e_toB e_int) (nomark _)) (t_and1 (t_cmp (c_nin (u100 hr)) b_nin (e_toB (e_var 4)) (e_toB (e_cut (e_toB (e_var 1)) (so_some (e_neg e_int)) so_none)) (by rfl))))))) (fun s H C cl fp => (e_var 4)))
    (ss_cons (s_if (t_not (t_tru (e_toB (e_var 3)))) (ss_cons (s_ret e_non)
    ss_nil) ss_nil)
    (ss_cons (s_set 1 (e_op o_add (e_toB (e_var 1)) (e_toB (e_tup (a_cons (e_ix (u1 hr) (e_toB (e_var 3)) e_int) a_nil)))) hNd)
    ss_nil))))
    (ss_cons (s_ret (e_var 1))
    ss_nil)))
theorem sc_bound_by : FnScope ["weeks", "i", "j", "bound", "week"] ["weeks", "i", "j"] (defScope s_bound_by) := fnScope_by (by decide +kernel)
theorem ok_bound_by (B : Bi mg) {fa : Addr} {fd : FuncData} (Fn : FunD K "bound_by" "bound_by" (defArgs s_bound_by) (defBody s_bound_by) (defScope s_bound_by) [] [] fa fd) (hm : mg "bound_by" = some (.ref fa)) : DefOk P w K mg base T "bound_by" 1 3 F_bound_by := by
  have hNd : (["weeks", "i", "j", "bound", "week"] : List Str).Nodup := by decide
  exact def_ok (k := 0) Fn hm sc_bound_by (by decide) (FunD.bindsN (ps := ["weeks", "i", "j"]) Fn fun _ _ _ _ _ _ us hl => match us, hl with | [_, _, _], _ => rfl) fun A outer s H E hr =>
    (ss_cons (s_set 3 (e_ix (u1 hr) (e_toB (e_ix (u1 hr) (e_toB (e_var 0)) (e_var 1))) e_int) hNd)
    (ss_cons (s_for PassesOwn.never rfl (i_range2 (q := false) B.range_ (e_op o_add (e_toB (e_var 1)) (e_toB e_int)) (e_op o_add (e_toB (e_var 2)) (e_toB e_int))) (g_nm 4 hNd) (ss_cons (s_if (t_bool (t_or (t_cmp (c_ne (u64 hr)) b_ne (e_toB (e_len B.len_ (e_toB (e_ix (u1 hr) (e_toB (e_var 0)) (e_var 4))))) (e_toB e_int) (nomark _)) (t_or1 (t_cmp (c_nin (u100 hr)) b_nin (e_toB (e_var 3)) (e_toB (e_ix (u1 hr) (e_toB (e_var 0)) (e_var 4))) (by rfl))))) (ss_cons (s_ret e_non)
    ss_nil) ss_nil)
    (ss_cons (s_set 3 (e_if (t_cmp (c_eq (u64 hr)) b_eq (e_toB (e_ix (u1 hr) (e_toB (e_ix (u1 hr) (e_toB (e_var 0)) (e_var 4))) e_int)) (e_toB (e_var 3)) (nomark _)) (e_ix (u1 hr) (e_toB (e_ix (u1 hr) (e_toB (e_var 0)) (e_var 4))) e_int) (e_ix (u1 hr) (e_toB (e_ix (u1 hr) (e_toB (e_var 0)) (e_var 4))) e_int)) hNd)
    ss_nil)))
    (ss_cons (s_ret (e_var 3))
    ss_nil)))
theorem sc_is_vise : FnScope ["weeks", "i", "j"] ["weeks", "i", "j"] (defScope s_is_vise) := fnScope_by (by decide +kernel)
theorem ok_is_vise (B : Bi mg) (G_bound_by : DefOk P w K mg base T "bound_by" 1 3 F_bound_by) {fa : Addr} {fd : FuncData} (Fn : FunD K "is_vise" "is_vise" (defArgs s_is_vise) (defBody s_is_vise) (defScope s_is_vise) [] [] fa fd) (hm : mg "is_vise" = some (.ref fa)) : DefOk P w K mg base T "is_vise" 2 3 F_is_vise := by
  have hNd : (["weeks", "i", "j"] : List Str).Nodup := by decide
  exact def_ok (k := 1) Fn hm sc_is_vise (by decide) (FunD.bindsN (ps := ["weeks", "i", "j"]) Fn fun _ _ _ _ _ _ us hl => match us, hl with | [_, _, _], _ => rfl) fun A outer s H E hr =>
    (ss_cons (s_if (t_not (t_ch3 (c_le (u64 hr)) (c_le (u64 hr)) (c_lt (u64 hr)) b_le b_le b_lt (e_toB e_int) (e_toB (e_var 1)) (e_toB (e_var 2)) (e_toB (e_len B.len_ (e_toB (e_var 0)))))) (ss_cons (s_ret e_bl)
    ss_nil) ss_nil)
    (ss_cons (s_if (t_cmp (c_eq (u64 hr)) b_eq (e_toB (e_var 1)) (e_toB (e_var 2)) (nomark _)) (ss_cons (s_ret (e_cmp (c_eq (u64 hr)) b_eq (e_toB (e_len B.len_ (e_toB (e_ix (u1 hr) (e_toB (e_var 0)) (e_var 1))))) (e_toB e_int) (nomark _)))
    ss_nil) ss_nil)
    (ss_cons (s_if (t_bool (t_or (t_cmp (c_ne (u64 hr)) b_ne (e_toB (e_len B.len_ (e_toB (e_ix (u1 hr) (e_toB (e_var 0)) (e_var 1))))) (e_toB e_int) (nomark _)) (t_or1 (t_cmp (c_ne (u64 hr)) b_ne (e_toB (e_len B.len_ (e_toB (e_ix (u1 hr) (e_toB (e_var 0)) (e_var 2))))) (e_toB e_int) (nomark _))))) (ss_cons (s_ret e_bl)
    ss_nil) ss_nil)
    (ss_cons (s_ret (e_cmp (c_eq (u64 hr)) b_eq (e_toB (e_call G_bound_by hr (a_cons (e_var 0) (a_cons (e_var 1) (a_cons (e_op o_sub (e_toB (e_var 2)) (e_toB e_int)) a_nil))) (by decide))) (e_toB (e_ix (u1 hr) (e_toB (e_ix (u1 hr) (e_toB (e_var 0)) (e_var 2))) e_int)) (nomark _)))
    ss_nil))))
theorem sc_told_vise : FnScope ["weeks", "i", "j"] ["weeks"] (defScope s_told_vise) := fnScope_by (by decide +kernel)
theorem ok_told_vise (B : Bi mg) (G_is_vise : DefOk P w K mg base T "is_vise" 2 3 F_is_vise) {fa : Addr} {fd : FuncData} (Fn : FunD K "told_vise" "told_vise" (defArgs s_told_vise) (defBody s_told_vise) (defScope s_told_vise) [] [] fa fd) (hm : mg "told_vise" = some (.ref fa)) : DefOk P w K mg base T "told_vise" 3 1 F_told_vise := by
  have hNd : (["weeks", "i", "j"] : List Str).Nodup := by decide
  exact def_ok (k := 2) Fn hm sc_told_vise (by decide) (FunD.bindsN (ps := ["weeks"]) Fn fun _ _ _ _ _ _ us hl => match us, hl with | [_], _ => rfl) fun A outer s H E hr =>
    (ss_cons (s_for PassesOwn.never rfl (i_range1 (q := false) B.range_ (e_len B.len_ (e_toB (e_var 0)))) (g_nm 1 hNd) (ss_cons (s_for PassesOwn.never rfl (i_range2 (q := false) B.range_ (e_var 1) (e_len B.len_ (e_toB (e_var 0)))) (g_nm 2 hNd) (ss_cons (s_if (t_tru (e_toB (e_call G_is_vise hr (a_cons (e_var 0) (a_cons (e_var 1) (a_cons (e_var 2) a_nil))) (by decide)))) (ss_cons (s_ret (e_tup (a_cons (e_var 1) (a_cons (e_var 2) a_nil))))
    ss_nil) ss_nil)
    ss_nil))
    ss_nil))
    (ss_cons (s_ret e_non)
    ss_nil))
theorem sc_number_of_duties : FnScope ["weeks", "ways", "warden"] ["weeks"] (defScope s_number_of_duties) := fnScope_by (by decide +kernel)
theorem ok_number_of_duties (B : Bi mg) (G_ways_behind : DefOk P w K mg base T "ways_behind" 1 1 F_ways_behind) {fa : Addr} {fd : FuncData} (Fn : FunD K "number_of_duties" "number_of_duties" (defArgs s_number_of_duties) (defBody s_number_of_duties) (defScope s_number_of_duties) [] [] fa fd) (hm : mg "number_of_duties" = some (.ref fa)) : DefOk P w K mg base T "number_of_duties" 2 1 F_number_of_duties := by
  have hNd : (["weeks", "ways", "warden"] : List Str).Nodup := by decide
  exact def_ok (k := 1) Fn hm sc_number_of_duties (by decide) (FunD.bindsN (ps := ["weeks"]) Fn fun _ _ _ _ _ _ us hl => match us, hl with | [_], _ => rfl) fun A outer s H E hr =>
    (ss_cons (s_if (t_cmp (c_eq (u64 hr)) b_eq (e_toB (e_len B.len_ (e_toB (e_var 0)))) (e_toB e_int) (nomark _)) (ss_cons (s_ret e_int)
    ss_nil) ss_nil)
    (ss_cons (s_set 1 (e_ix (u1 hr) (e_toB (e_call G_ways_behind hr (a_cons (e_var 0) a_nil) (by decide))) e_int) hNd)
    (ss_cons (s_ret (e_sum B.sum_ (e_toB (e_new (f_lcK 1 rfl hNd (blkOk_by (own := [("warden", 2)]) (by kernel_rfl)) (fun s H C cl fp => (g_nm 2 hNd)) (fun s H C cl fp => ts_nil) (fun s H C cl fp => (e_ix (u1 hr) (e_toB (e_var 1)) (e_var 2))))))))
    ss_nil)))
theorem sc_free_wardens : FnScope ["weeks", "week", "behind", "ahead", "warden"] ["weeks", "week"] (defScope s_free_wardens) := fnScope_by (by decide +kernel)
theorem ok_free_wardens (B : Bi mg) (G_ways_behind : DefOk P w K mg base T "ways_behind" 1 1 F_ways_behind) {fa : Addr} {fd : FuncData} (Fn : FunD K "free_wardens" "free_wardens" (defArgs s_free_wardens) (defBody s_free_wardens) (defScope s_free_wardens) [] [] fa fd) (hm : mg "free_wardens" = some (.ref fa)) : DefOk P w K mg base T "free_wardens" 2 2 F_free_wardens := by
  have hNd : (["weeks", "week", "behind", "ahead", "warden"] : List Str).Nodup := by decide
  exact def_ok (k := 1) Fn hm sc_free_wardens (by decide) (FunD.bindsN (ps := ["weeks", "week"]) Fn fun _ _ _ _ _ _ us hl => match us, hl with | [_, _], _ => rfl) fun A outer s H E hr =>
    (ss_cons (s_set 2 (e_ix (u1 hr) (e_toB (e_call G_ways_behind hr (a_cons (e_cut (e_toB (e_var 0)) (so_some (e_var 1)) so_none) a_nil) (by decide))) e_int) hNd)
    (ss_cons (s_set 3 (e_ix (u1 hr) (e_toB (e_call G_ways_behind hr (a_cons (e_back (e_toB (e_var 0)) (so_some (e_var 1))) a_nil) (by decide))) e_int) hNd)
    (ss_cons (s_ret (e_tupOf B.tuple_ (e_toB (e_new (f_lc rfl hNd (i_seq (q_e (e_ix (u1 hr) (e_toB (e_var 0)) (e_var 1)))) (blkOk_by (own := [("warden", 4)]) (by kernel_rfl)) (fun s H C cl fp => (g_nm 4 hNd)) (fun s H C cl fp => (ts_one (t_bool (t_and (t_cmp (c_gt (u64 hr)) b_gt (e_toB (e_ix (u1 hr) (e_toB (e_var 2)) (e_var 4))) (e_toB e_int) (nomark _)) (t_and1 (t_cmp (c_gt (u64 hr)) b_gt (e_toB (e_ix (u1 hr) (e_toB (e_var 3)) (e_var 4))) (e_toB e_int) (nomark _))))))) (fun s H C cl fp => (e_var 4)))))))
    ss_nil)))
theorem sc_reached_from : FnScope ["n", "links", "starts", "found", "_", "one", "other", "cell"] ["n", "links", "starts"] (defScope s_reached_from) := fnScope_by (by decide +kernel)
theorem ok_reached_from (B : Bi mg) {fa : Addr} {fd : FuncData} (Fn : FunD K "reached_from" "reached_from" (defArgs s_reached_from) (defBody s_reached_from) (defScope s_reached_from) [] [] fa fd) (hm : mg "reached_from" = some (.ref fa)) : DefOk P w K mg base T "reached_from" 1 3 F_reached_from := by
  have hNd : (["n", "links", "starts", "found", "_", "one", "other", "cell"] : List Str).Nodup := by decide
  exact def_ok (k := 0) Fn hm sc_reached_from (by decide) (FunD.bindsN (ps := ["n", "links", "starts"]) Fn fun _ _ _ _ _ _ us hl => match us, hl with | [_, _, _], _ => rfl) fun A outer s H E hr =>
    (ss_cons (s_ownDc 3 rfl hNd (i_seq (q_e (e_var 2))) (blkOk_by (own := [("cell", 7)]) (by kernel_rfl)) (fun s H C cl fp => (g_nm 7 hNd)) (fun s H C cl fp => ts_nil) (fun s H C cl fp => (e_var 7)) (fun s H C cl fp => e_bl))
    (ss_cons (s_for PassesOwn.never rfl (i_range1 (q := false) B.range_ (e_var 0)) (g_nm 4 hNd) (ss_cons (s_for PassesOwn.never rfl (i_seq (q_e (e_var 1))) (g_tp (gs_cons (g_nm 5 hNd) (gs_cons (g_nm 6 hNd) gs_nil))) (ss_cons (s_if (t_cmp (c_in (u100 hr)) b_in (e_toB (e_var 5)) (e_own 3) (by rfl)) (ss_cons (s_put 3 (u1 hr) (e_var 6) e_bl)
    ss_nil) ss_nil)
    ss_nil))
    ss_nil))
    (ss_cons (s_retO 3)
    ss_nil)))
theorem sc_alive_cells : FnScope ["n", "links", "roots"] ["n", "links", "roots"] (defScope s_alive_cells) := fnScope_by (by decide +kernel)
theorem ok_alive_cells (B : Bi mg) (G_reached_from : DefOk P w K mg base T "reached_from" 1 3 F_reached_from) {fa : Addr} {fd : FuncData} (Fn : FunD K "alive_cells" "alive_cells" (defArgs s_alive_cells) (defBody s_alive_cells) (defScope s_alive_cells) [] [] fa fd) (hm : mg "alive_cells" = some (.ref fa)) : DefOk P w K mg base T "alive_cells" 2 3 F_alive_cells := by
  have hNd : (["n", "links", "roots"] : List Str).Nodup := by decide
  exact def_ok (k := 1) Fn hm sc_alive_cells (by decide) (FunD.bindsN (ps := ["n", "links", "roots"]) Fn fun _ _ _ _ _ _ us hl => match us, hl with | [_, _, _], _ => rfl) fun A outer s H E hr =>
    (ss_cons (s_ret (e_tupOf B.tuple_ (e_toB (e_new (f_sortK B.sorted_ (e_toB (e_call G_reached_from hr (a_cons (e_var 0) (a_cons (e_var 1) (a_cons (e_var 2) a_nil))) (by decide))))))))
    ss_nil)
theorem sc_all_sets : FnScope ["n", "found", "number", "one"] ["n"] (defScope s_all_sets) := fnScope_by (by decide +kernel)
theorem ok_all_sets (B : Bi mg) {fa : Addr} {fd : FuncData} (Fn : FunD K "all_sets" "all_sets" (defArgs s_all_sets) (defBody s_all_sets) (defScope s_all_sets) [] [] fa fd) (hm : mg "all_sets" = some (.ref fa)) : DefOk P w K mg base T "all_sets" 1 1 F_all_sets := by
  have hNd : (["n", "found", "number", "one"] : List Str).Nodup := by decide
  exact def_ok (k := 0) Fn hm sc_all_sets (by decide) (FunD.bindsN (ps := ["n"]) Fn fun _ _ _ _ _ _ us hl => match us, hl with | [_], _ => rfl) fun A outer s H E hr =>
    (ss_cons (s_set 1 (e_new (f_lst (a_cons (e_tup a_nil) a_nil))) hNd)
    (ss_cons (s_for PassesOwn.never rfl (i_range1 (q := false) B.range_ (e_var 0)) (g_nm 2 hNd) (ss_cons (s_set 1 (e_op o_add (e_toB (e_var 1)) (e_toB (e_new (f_lc rfl hNd (i_seq (q_e (e_var 1))) (blkOk_by (own := [("one", 3)]) (by kernel_rfl)) (fun s H C cl fp => (g_nm 3 hNd)) (fun s H C cl fp => ts_nil) (fun s H C cl fp => (e_op o_add (e_toB (e_var 3)) (e_toB (e_tup (a_cons (e_var 2) a_nil))))))))) hNd)
    ss_nil))
    (ss_cons (s_ret (e_new (f_sort (u100 hr) B.sorted_ (e_toB (e_var 1)))))
    ss_nil)))
theorem sc_are_met : FnScope ["needs", "numbers", "parcel", "allowed"] ["needs", "numbers"] (defScope s_are_met) := fnScope_by (by decide +kernel)
theorem ok_are_met (B : Bi mg) {fa : Addr} {fd : FuncData} (Fn : FunD K "are_met" "are_met" (defArgs s_are_met) (defBody s_are_met) (defScope s_are_met) [] [] fa fd) (hm : mg "are_met" = some (.ref fa)) {c P0 : Addr} (hPT : P0 ∈ T) (TB : LamX.TabB base mg c P0) (hcd : fd.code = .ref c) : DefOk P w K mg base T "are_met" 2 2 F_are_met := by
  have hNd : (["needs", "numbers", "parcel", "allowed"] : List Str).Nodup := by decide
  exact def_ok (k := 1) Fn hm sc_are_met (by decide) (FunD.bindsN (ps := ["needs", "numbers"]) Fn fun _ _ _ _ _ _ us hl => match us, hl with | [_, _], _ => rfl) fun A outer s H E hr =>
    (ss_cons (s_ret (e_all hr B.all_ hPT TB hcd (genSc_by (by decide +kernel)) rfl hNd (i_seq (q_e (e_var 0))) (blkOk_by (own := [("parcel", 2), ("allowed", 3)]) (by kernel_rfl)) (fun s H cl C code fp a go => (g_tp (gs_cons (g_nm 2 hNd) (gs_cons (g_nm 3 hNd) gs_nil)))) (fun s H cl C code fp a go => ts_nil) (fun s H cl C code fp a go => (fun hr => (e_cmp (c_in (u100 hr)) b_in (e_toB (e_ix (u1 hr) (e_toB (e_var 1)) (e_var 2))) (e_toB (e_var 3)) (by rfl))) (room_gen hr))))
    ss_nil)
theorem sc_is_choice : FnScope ["parcels", "wishes", "numbers", "number", "versions"] ["parcels", "wishes", "numbers"] (defScope s_is_choice) := fnScope_by (by decide +kernel)
theorem ok_is_choice (B : Bi mg) (G_are_met : DefOk P w K mg base T "are_met" 2 2 F_are_met) {fa : Addr} {fd : FuncData} (Fn : FunD K "is_choice" "is_choice" (defArgs s_is_choice) (defBody s_is_choice) (defScope s_is_choice) [] [] fa fd) (hm : mg "is_choice" = some (.ref fa)) {c P0 : Addr} (hPT : P0 ∈ T) (TB : LamX.TabB base mg c P0) (hcd : fd.code = .ref c) : DefOk P w K mg base T "is_choice" 4 3 F_is_choice := by
  have hNd : (["parcels", "wishes", "numbers", "number", "versions"] : List Str).Nodup := by decide
  exact def_ok (k := 3) Fn hm sc_is_choice (by decide) (FunD.bindsN (ps := ["parcels", "wishes", "numbers"]) Fn fun _ _ _ _ _ _ us hl => match us, hl with | [_, _, _], _ => rfl) fun A outer s H E hr =>
    (ss_cons (s_if (t_cmp (c_ne (u64 hr)) b_ne (e_toB (e_len B.len_ (e_toB (e_var 2)))) (e_toB (e_len B.len_ (e_toB (e_var 0)))) (nomark _)) (ss_cons (s_ret e_bl)
    ss_nil) ss_nil)
    (ss_cons (s_if (t_not (t_tru (e_toB (e_all hr B.all_ hPT TB hcd (genSc_by (by decide +kernel)) rfl hNd (i_zipQ B.zip_ (qs_e (a_cons (e_var 2) (a_cons (e_var 0) a_nil)))) (blkOk_by (own := [("number", 3), ("versions", 4)]) (by kernel_rfl)) (fun s H cl C code fp a go => (g_tp (gs_cons (g_nm 3 hNd) (gs_cons (g_nm 4 hNd) gs_nil)))) (fun s H cl C code fp a go => ts_nil) (fun s H cl C code fp a go => (fun hr => (e_ch (c_le (u64 hr)) (c_lt (u64 hr)) b_le b_lt (e_toB (e_neg e_int)) (e_toB (e_var 3)) (e_toB (e_len B.len_ (e_toB (e_var 4)))))) (room_gen hr)))))) (ss_cons (s_ret e_bl)
    ss_nil) ss_nil)
    (ss_cons (s_if (t_not (t_tru (e_toB (e_call G_are_met hr (a_cons (e_var 1) (a_cons (e_var 2) a_nil)) (by decide))))) (ss_cons (s_ret e_bl)
    ss_nil) ss_nil)
    (ss_cons (s_ret (e_all hr B.all_ hPT TB hcd (genSc_by (by decide +kernel)) rfl hNd (i_zipQ B.zip_ (qs_e (a_cons (e_var 2) (a_cons (e_var 0) a_nil)))) (blkOk_by (own := [("number", 3), ("versions", 4)]) (by kernel_rfl)) (fun s H cl C code fp a go => (g_tp (gs_cons (g_nm 3 hNd) (gs_cons (g_nm 4 hNd) gs_nil)))) (fun s H cl C code fp a go => ts_nil) (fun s H cl C code fp a go => (fun hr => (e_or (e_cmp (c_eq (u64 hr)) b_eq (e_toB (e_var 3)) (e_toB (e_neg e_int)) (nomark _)) (e_or1 (e_call G_are_met hr (a_cons (e_ix (u1 hr) (e_toB (e_var 4)) (e_var 3)) (a_cons (e_var 2) a_nil)) (by decide))))) (room_gen hr))))
    ss_nil))))
theorem sc_choices_from : FnScope ["parcels", "wishes", "begun", "found", "number"] ["parcels", "wishes", "begun"] (defScope s_choices_from) := fnScope_by (by decide +kernel)
theorem okr_choices_from (B : Bi mg) (G_is_choice : DefOk P w K mg base T "is_choice" 4 3 F_is_choice) {fa : Addr} {fd : FuncData} (Fn : FunD K "choices_from" "choices_from" (defArgs s_choices_from) (defBody s_choices_from) (defScope s_choices_from) [] [] fa fd) (hm : mg "choices_from" = some (.ref fa)) : ∀ n : Nat, DefOk P w K mg base T "choices_from" (5 + 1 * n) 3 (R_choices_from n)
  | 0 => def_none (N := []) Fn hm (FunD.bindsN (ps := ["parcels", "wishes", "begun"]) Fn fun _ _ _ _ _ _ us hl => match us, hl with | [_, _, _], _ => rfl) rfl
  | n + 1 => by
    have hNd : (["parcels", "wishes", "begun", "found", "number"] : List Str).Nodup := by decide
    have G_choices_from := okr_choices_from B G_is_choice Fn hm n
    exact (def_ok (k := 5 + 1 * n + 0) Fn hm sc_choices_from (by decide) (FunD.bindsN (ps := ["parcels", "wishes", "begun"]) Fn fun _ _ _ _ _ _ us hl => match us, hl with | [_, _, _], _ => rfl) fun A outer s H E hr =>
    (ss_cons (s_if (t_cmp (c_eq (u64 hr)) b_eq (e_toB (e_len B.len_ (e_toB (e_var 2)))) (e_toB (e_len B.len_ (e_toB (e_var 0)))) (nomark _)) (ss_cons (s_ret (e_if (t_tru (e_toB (e_call G_is_choice hr (a_cons (e_var 0) (a_cons (e_var 1) (a_cons (e_var 2) a_nil))) (by omega)))) (e_new (f_lst (a_cons (e_var 2) a_nil))) (e_new (f_lst a_nil))))
    ss_nil) ss_nil)
    (ss_cons (s_own 3 (f_lst a_nil) hNd)
    (ss_cons (s_for PassesOwn.never rfl (i_rangeDown (q := false) B.range_ (e_op o_sub (e_toB (e_len B.len_ (e_toB (e_ix (u1 hr) (e_toB (e_var 0)) (e_len B.len_ (e_toB (e_var 2))))))) (e_toB e_int)) (e_neg e_int)) (g_nm 4 hNd) (ss_cons (s_ext 3 (e_call G_choices_from hr (a_cons (e_var 0) (a_cons (e_var 1) (a_cons (e_op o_add (e_toB (e_var 2)) (e_toB (e_tup (a_cons (e_var 4) a_nil)))) a_nil))) (by omega)))
    ss_nil))
    (ss_cons (s_retO 3)
    ss_nil))))).mono (by omega)
theorem ok_choices_from (B : Bi mg) (G_is_choice : DefOk P w K mg base T "is_choice" 4 3 F_is_choice) {fa : Addr} {fd : FuncData} (Fn : FunD K "choices_from" "choices_from" (defArgs s_choices_from) (defBody s_choices_from) (defScope s_choices_from) [] [] fa fd) (hm : mg "choices_from" = some (.ref fa)) : DefOk P w K mg base T "choices_from" 35 3 F_choices_from := okr_choices_from B G_is_choice Fn hm 30
theorem sc_told_choice : FnScope ["parcels", "wishes", "found"] ["parcels", "wishes"] (defScope s_told_choice) := fnScope_by (by decide +kernel)
theorem ok_told_choice (B : Bi mg) (G_choices_from : DefOk P w K mg base T "choices_from" 35 3 F_choices_from) {fa : Addr} {fd : FuncData} (Fn : FunD K "told_choice" "told_choice" (defArgs s_told_choice) (defBody s_told_choice) (defScope s_told_choice) [] [] fa fd) (hm : mg "told_choice" = some (.ref fa)) : DefOk P w K mg base T "told_choice" 36 2 F_told_choice := by
  have hNd : (["parcels", "wishes", "found"] : List Str).Nodup := by decide
  exact def_ok (k := 35) Fn hm sc_told_choice (by decide) (FunD.bindsN (ps := ["parcels", "wishes"]) Fn fun _ _ _ _ _ _ us hl => match us, hl with | [_, _], _ => rfl) fun A outer s H E hr =>
    (ss_cons (s_set 2 (e_call G_choices_from hr (a_cons (e_var 0) (a_cons (e_var 1) (a_cons (e_tup a_nil) a_nil))) (by decide)) hNd)
    (ss_cons (s_ret (e_if (t_tru (e_toB (e_var 2))) (e_ix (u1 hr) (e_toB (e_var 2)) e_int) e_non))
    ss_nil))
theorem sc_number_of_choices : FnScope ["parcels", "wishes"] ["parcels", "wishes"] (defScope s_number_of_choices) := fnScope_by (by decide +kernel)
theorem ok_number_of_choices (B : Bi mg) (G_choices_from : DefOk P w K mg base T "choices_from" 35 3 F_choices_from) {fa : Addr} {fd : FuncData} (Fn : FunD K "number_of_choices" "number_of_choices" (defArgs s_number_of_choices) (defBody s_number_of_choices) (defScope s_number_of_choices) [] [] fa fd) (hm : mg "number_of_choices" = some (.ref fa)) : DefOk P w K mg base T "number_of_choices" 36 2 F_number_of_choices := by
  have hNd : (["parcels", "wishes"] : List Str).Nodup := by decide
  exact def_ok (k := 35) Fn hm sc_number_of_choices (by decide) (FunD.bindsN (ps := ["parcels", "wishes"]) Fn fun _ _ _ _ _ _ us hl => match us, hl with | [_, _], _ => rfl) fun A outer s H E hr =>
    (ss_cons (s_ret (e_len B.len_ (e_toB (e_call G_choices_from hr (a_cons (e_var 0) (a_cons (e_var 1) (a_cons (e_tup a_nil) a_nil))) (by decide)))))
    ss_nil)
theorem sc_has_choice : FnScope ["parcels", "wishes", "places", "place"] ["parcels", "wishes", "places"] (defScope s_has_choice) := fnScope_by (by decide +kernel)
theorem ok_has_choice (B : Bi mg) (G_told_choice : DefOk P w K mg base T "told_choice" 36 2 F_told_choice) {fa : Addr} {fd : FuncData} (Fn : FunD K "has_choice" "has_choice" (defArgs s_has_choice) (defBody s_has_choice) (defScope s_has_choice) [] [] fa fd) (hm : mg "has_choice" = some (.ref fa)) : DefOk P w K mg base T "has_choice" 37 3 F_has_choice := by
  have hNd : (["parcels", "wishes", "places", "place"] : List Str).Nodup := by decide
  exact def_ok (k := 36) Fn hm sc_has_choice (by decide) (FunD.bindsN (ps := ["parcels", "wishes", "places"]) Fn fun _ _ _ _ _ _ us hl => match us, hl with | [_, _, _], _ => rfl) fun A outer s H E hr =>
    (ss_cons (s_ret (e_notN (e_toB (e_call G_told_choice hr (a_cons (e_var 0) (a_cons (e_tupOf B.tuple_ (e_toB (e_new (f_lc rfl hNd (i_seq (q_e (e_var 2))) (blkOk_by (own := [("place", 3)]) (by kernel_rfl)) (fun s H C cl fp => (g_nm 3 hNd)) (fun s H C cl fp => ts_nil) (fun s H C cl fp => (e_ix (u1 hr) (e_toB (e_var 1)) (e_var 3))))))) a_nil)) (by decide)))))
    ss_nil)
theorem sc_told_quarrel : FnScope ["parcels", "wishes", "places", "fewer", "place", "one", "some"] ["parcels", "wishes"] (defScope s_told_quarrel) := fnScope_by (by decide +kernel)
theorem ok_told_quarrel (B : Bi mg) (G_all_sets : DefOk P w K mg base T "all_sets" 1 1 F_all_sets) (G_has_choice : DefOk P w K mg base T "has_choice" 37 3 F_has_choice) {fa : Addr} {fd : FuncData} (Fn : FunD K "told_quarrel" "told_quarrel" (defArgs s_told_quarrel) (defBody s_told_quarrel) (defScope s_told_quarrel) [] [] fa fd) (hm : mg "told_quarrel" = some (.ref fa)) {c P0 : Addr} (hPT : P0 ∈ T) (TB : LamX.TabB base mg c P0) (hcd : fd.code = .ref c) : DefOk P w K mg base T "told_quarrel" 39 2 F_told_quarrel := by
  have hNd : (["parcels", "wishes", "places", "fewer", "place", "one", "some"] : List Str).Nodup := by decide
  exact def_ok (k := 38) Fn hm sc_told_quarrel (by decide) (FunD.bindsN (ps := ["parcels", "wishes"]) Fn fun _ _ _ _ _ _ us hl => match us, hl with | [_, _], _ => rfl) fun A outer s H E hr =>
    (ss_cons (s_for PassesOwn.never rfl (i_seq (q_e (e_call G_all_sets hr (a_cons (e_len B.len_ (e_toB (e_var 1))) a_nil) (by decide)))) (g_nm 2 hNd) (ss_cons (s_setLc 3 rfl hNd (i_seq (q_e (e_var 2))) (blkOk_by (own := [("place", 4)]) (by kernel_rfl)) (fun s H C cl fp => (g_nm 4 hNd)) (fun s H C cl fp => ts_nil) (fun s H C cl fp => (e_tupOf B.tuple_ (e_toB (e_new (f_lc rfl hNd (i_seq (q_e (e_var 2))) (blkOk_by (own := [("one", 5)]) (by kernel_rfl)) (fun s H C cl fp => (g_nm 5 hNd)) (fun s H C cl fp => (ts_one (t_cmp (c_ne (u64 hr)) b_ne (e_toB (e_var 5)) (e_toB (e_var 4)) (nomark _)))) (fun s H C cl fp => (e_var 5))))))))
    (ss_cons (s_if (t_bool (t_and (t_not (t_tru (e_toB (e_call G_has_choice hr (a_cons (e_var 0) (a_cons (e_var 1) (a_cons (e_var 2) a_nil))) (by decide))))) (t_and1 (t_tru (e_toB (e_all hr B.all_ hPT TB hcd (genSc_by (by decide +kernel)) rfl hNd (i_seq (q_e (e_var 3))) (blkOk_by (own := [("some", 6)]) (by kernel_rfl)) (fun s H cl C code fp a go => (g_nm 6 hNd)) (fun s H cl C code fp a go => ts_nil) (fun s H cl C code fp a go => (fun hr => (e_call G_has_choice hr (a_cons (e_var 0) (a_cons (e_var 1) (a_cons (e_var 6) a_nil))) (by decide))) (room_gen hr)))))))) (ss_cons (s_ret (e_var 2))
    ss_nil) ss_nil)
    ss_nil)))
    (ss_cons (s_ret e_non)
    ss_nil))
theorem sc__law_cell : FnScope ["script", "k"] ["script", "k"] (defScope s__law_cell) := fnScope_by (by decide +kernel)
theorem ok__law_cell (B : Bi mg) {fa : Addr} {fd : FuncData} (Fn : FunD K "_law_cell" "_law_cell" (defArgs s__law_cell) (defBody s__law_cell) (defScope s__law_cell) [] [] fa fd) (hm : mg "_law_cell" = some (.ref fa)) : DefOk P w K mg base T "_law_cell" 1 2 F__law_cell := by
  have hNd : (["script", "k"] : List Str).Nodup := by decide
  exact def_ok (k := 0) Fn hm sc__law_cell (by decide) (FunD.bindsN (ps := ["script", "k"]) Fn fun _ _ _ _ _ _ us hl => match us, hl with | [_, _], _ => rfl) fun A outer s H E hr =>
    (ss_cons (s_if (t_cmp (c_lt (u64 hr)) b_lt (e_toB (e_var 1)) (e_toB (e_len B.len_ (e_toB (e_var 0)))) (nomark _)) (ss_cons (s_ret (e_ix (u1 hr) (e_toB (e_var 0)) (e_var 1)))
    ss_nil) ss_nil)
    (ss_cons (s_ret (e_op o_add (e_toB (e_op o_mulI (e_toB e_int) (e_toB (e_var 1)))) (e_toB e_int)))
    ss_nil))
theorem sc__law_draws : FnScope ["cell", "count", "rest", "digits", "seed", "draws", "k", "mixed"] ["cell", "count"] (defScope s__law_draws) := fnScope_by (by decide +kernel)
theorem ok__law_draws (B : Bi mg) {fa : Addr} {fd : FuncData} (Fn : FunD K "_law_draws" "_law_draws" (defArgs s__law_draws) (defBody s__law_draws) (defScope s__law_draws) [] [] fa fd) (hm : mg "_law_draws" = some (.ref fa)) : DefOk P w K mg base T "_law_draws" 1 2 F__law_draws := by
  have hNd : (["cell", "count", "rest", "digits", "seed", "draws", "k", "mixed"] : List Str).Nodup := by decide
  exact def_ok (k := 0) Fn hm sc__law_draws (by decide) (FunD.bindsN (ps := ["cell", "count"]) Fn fun _ _ _ _ _ _ us hl => match us, hl with | [_, _], _ => rfl) fun A outer s H E hr =>
    (ss_cons (s_set 2 (e_abs B.abs_ (e_intOf B.int_ (e_var 0))) hNd)
    (ss_cons (s_set 3 (e_cmp (c_ge (u64 hr)) b_ge (e_toB (e_var 2)) (e_toB (e_op o_pow (e_toB e_int) (e_toB e_int))) (nomark _)) hNd)
    (ss_cons (s_set 4 (e_var 2) hNd)
    (ss_cons (s_own 5 (f_lst a_nil) hNd)
    (ss_cons (s_for PassesOwn.never rfl (i_range1 (q := false) B.range_ (e_var 1)) (g_nm 6 hNd) (ss_cons (s_if (t_bool (t_and (t_tru (e_toB (e_var 3))) (t_and1 (t_cmp (c_gt (u64 hr)) b_gt (e_toB (e_var 2)) (e_toB e_int) (nomark _))))) (ss_cons (s_app 5 (e_op o_mod (e_toB (e_intOf B.int_ (e_var 2))) (e_toB e_int)))
    (ss_cons (s_set 2 (e_op o_fdiv (e_toB (e_var 2)) (e_toB e_int)) hNd)
    ss_nil)) (ss_cons (s_set 7 (e_op o_mod (e_toB (e_intOf B.int_ (e_op o_add (e_toB (e_op o_add (e_toB (e_op o_mulI (e_toB (e_var 4)) (e_toB e_int))) (e_toB (e_op o_mulI (e_toB (e_op o_add (e_toB (e_var 6)) (e_toB e_int))) (e_toB e_int))))) (e_toB e_int)))) (e_toB e_int)) hNd)
    (ss_cons (s_set 7 (e_op o_mod (e_toB (e_intOf B.int_ (e_op o_add (e_toB (e_op o_mulI (e_toB (e_var 7)) (e_toB (e_var 7)))) (e_toB (e_op o_mulI (e_toB e_int) (e_toB (e_op o_add (e_toB (e_var 6)) (e_toB e_int)))))))) (e_toB e_int)) hNd)
    (ss_cons (s_app 5 (e_op o_mod (e_toB (e_intOf B.int_ (e_op o_fdiv (e_toB (e_var 7)) (e_toB e_int)))) (e_toB e_int)))
    ss_nil))))
    ss_nil))
    (ss_cons (s_retO 5)
    ss_nil))))))
theorem sc__law_is_integer : FnScope ["value"] ["value"] (defScope s__law_is_integer) := fnScope_by (by decide +kernel)
theorem ok__law_is_integer (B : Bi mg) {fa : Addr} {fd : FuncData} (Fn : FunD K "_law_is_integer" "_law_is_integer" (defArgs s__law_is_integer) (defBody s__law_is_integer) (defScope s__law_is_integer) [] [] fa fd) (hm : mg "_law_is_integer" = some (.ref fa)) : DefOk P w K mg base T "_law_is_integer" 1 1 F__law_is_integer := by
  have hNd : (["value"] : List Str).Nodup := by decide
  exact def_ok (k := 0) Fn hm sc__law_is_integer (by decide) (FunD.bindsN (ps := ["value"]) Fn fun _ _ _ _ _ _ us hl => match us, hl with | [_], _ => rfl) fun A outer s H E hr =>
    (ss_cons (s_ret (e_and (e_isi .int B.isinstance_ B.int_ (e_var 0)) (e_and1 (e_not (e_toB (e_isi .bool B.isinstance_ B.bool_ (e_var 0)))))))
    ss_nil)
theorem sc__law_is : FnScope ["value", "due", "at"] ["value", "due"] (defScope s__law_is) := fnScope_by (by decide +kernel)
theorem okr__law_is (B : Bi mg) (G__law_is_integer : DefOk P w K mg base T "_law_is_integer" 1 1 F__law_is_integer) {fa : Addr} {fd : FuncData} (Fn : FunD K "_law_is" "_law_is" (defArgs s__law_is) (defBody s__law_is) (defScope s__law_is) [] [] fa fd) (hm : mg "_law_is" = some (.ref fa)) : ∀ n : Nat, DefOk P w K mg base T "_law_is" (2 + 1 * n) 2 (R__law_is n)
  | 0 => def_none (N := []) Fn hm (FunD.bindsN (ps := ["value", "due"]) Fn fun _ _ _ _ _ _ us hl => match us, hl with | [_, _], _ => rfl) rfl
  | n + 1 => by
    have hNd : (["value", "due", "at"] : List Str).Nodup := by decide
    have G__law_is := okr__law_is B G__law_is_integer Fn hm n
    exact (def_ok (k := 2 + 1 * n + 0) Fn hm sc__law_is (by decide) (FunD.bindsN (ps := ["value", "due"]) Fn fun _ _ _ _ _ _ us hl => match us, hl with | [_, _], _ => rfl) fun A outer s H E hr =>
    (ss_cons (s_if (t_isN (e_toB (e_var 1))) (ss_cons (s_ret (e_isN (e_toB (e_var 0))))
    ss_nil) ss_nil)
    (ss_cons (s_if (t_tru (e_toB (e_isi .bool B.isinstance_ B.bool_ (e_var 1)))) (ss_cons (s_ret (e_and (e_isi .bool B.isinstance_ B.bool_ (e_var 0)) (e_and1 (e_cmp (c_eq (u64 hr)) b_eq (e_toB (e_var 0)) (e_toB (e_var 1)) (nomark _)))))
    ss_nil) ss_nil)
    (ss_cons (s_if (t_tru (e_toB (e_isi .int B.isinstance_ B.int_ (e_var 1)))) (ss_cons (s_ret (e_and (e_call G__law_is_integer hr (a_cons (e_var 0) a_nil) (by omega)) (e_and1 (e_cmp (c_eq (u64 hr)) b_eq (e_toB (e_var 0)) (e_toB (e_var 1)) (nomark _)))))
    ss_nil) ss_nil)
    (ss_cons (s_if (t_tru (e_toB (e_isi .str B.isinstance_ B.str_ (e_var 1)))) (ss_cons (s_ret (e_and (e_isi .str B.isinstance_ B.str_ (e_var 0)) (e_and1 (e_cmp (c_eq (u64 hr)) b_eq (e_toB (e_var 0)) (e_toB (e_var 1)) (nomark _)))))
    ss_nil) ss_nil)
    (ss_cons (s_if (t_bool (t_or (t_not (t_tru (e_toB (e_isi .tup B.isinstance_ B.tuple_ (e_var 0))))) (t_or1 (t_cmp (c_ne (u64 hr)) b_ne (e_toB (e_len B.len_ (e_toB (e_var 0)))) (e_toB (e_len B.len_ (e_toB (e_var 1)))) (nomark _))))) (ss_cons (s_ret e_bl)
    ss_nil) ss_nil)
    (ss_cons (s_ret (e_allL B.all_ (e_toB (e_new (f_lc rfl hNd (i_range1 (q := false) B.range_ (e_len B.len_ (e_toB (e_var 1)))) (blkOk_by (own := [("at", 2)]) (by kernel_rfl)) (fun s H C cl fp => (g_nm 2 hNd)) (fun s H C cl fp => ts_nil) (fun s H C cl fp => (e_call G__law_is hr (a_cons (e_ix (u1 hr) (e_toB (e_var 0)) (e_var 2)) (a_cons (e_ix (u1 hr) (e_toB (e_var 1)) (e_var 2)) a_nil)) (by omega))))))))
    ss_nil))))))).mono (by omega)
theorem ok__law_is (B : Bi mg) (G__law_is_integer : DefOk P w K mg base T "_law_is_integer" 1 1 F__law_is_integer) {fa : Addr} {fd : FuncData} (Fn : FunD K "_law_is" "_law_is" (defArgs s__law_is) (defBody s__law_is) (defScope s__law_is) [] [] fa fd) (hm : mg "_law_is" = some (.ref fa)) : DefOk P w K mg base T "_law_is" 32 2 F__law_is := okr__law_is B G__law_is_integer Fn hm 30
theorem sc__law_is_integers : FnScope ["value", "number"] ["value"] (defScope s__law_is_integers) := fnScope_by (by decide +kernel)
theorem ok__law_is_integers (B : Bi mg) (G__law_is_integer : DefOk P w K mg base T "_law_is_integer" 1 1 F__law_is_integer) {fa : Addr} {fd : FuncData} (Fn : FunD K "_law_is_integers" "_law_is_integers" (defArgs s__law_is_integers) (defBody s__law_is_integers) (defScope s__law_is_integers) [] [] fa fd) (hm : mg "_law_is_integers" = some (.ref fa)) : DefOk P w K mg base T "_law_is_integers" 2 1 F__law_is_integers := by
  have hNd : (["value", "number"] : List Str).Nodup := by decide
  exact def_ok (k := 1) Fn hm sc__law_is_integers (by decide) (FunD.bindsN (ps := ["value"]) Fn fun _ _ _ _ _ _ us hl => match us, hl with | [_], _ => rfl) fun A outer s H E hr =>
    (ss_cons (s_ret (e_and (e_isi .tup B.isinstance_ B.tuple_ (e_var 0)) (e_and1 (e_allL B.all_ (e_toB (e_new (f_lc rfl hNd (i_seq (q_e (e_var 0))) (blkOk_by (own := [("number", 1)]) (by kernel_rfl)) (fun s H C cl fp => (g_nm 1 hNd)) (fun s H C cl fp => ts_nil) (fun s H C cl fp => (e_call G__law_is_integer hr (a_cons (e_var 1) a_nil) (by decide))))))))))
    ss_nil)
theorem sc__law_duties : FnScope ["weeks", "rows", "able", "longer", "row", "warden"] ["weeks"] (defScope s__law_duties) := fnScope_by (by decide +kernel)
theorem ok__law_duties (B : Bi mg) {fa : Addr} {fd : FuncData} (Fn : FunD K "_law_duties" "_law_duties" (defArgs s__law_duties) (defBody s__law_duties) (defScope s__law_duties) [] [] fa fd) (hm : mg "_law_duties" = some (.ref fa)) : DefOk P w K mg base T "_law_duties" 1 1 F__law_duties := by
  have hNd : (["weeks", "rows", "able", "longer", "row", "warden"] : List Str).Nodup := by decide
  exact def_ok (k := 0) Fn hm sc__law_duties (by decide) (FunD.bindsN (ps := ["weeks"]) Fn fun _ _ _ _ _ _ us hl => match us, hl with | [_], _ => rfl) fun A outer s H E hr =>
    (ss_cons (s_set 1 (e_new (f_lst (a_cons (e_tup a_nil) a_nil))) hNd)
    (ss_cons (s_for PassesOwn.never rfl (i_seq (q_e (e_var 0))) (g_nm 2 hNd) (ss_cons (s_set 3 (e_new (f_lst a_nil)) hNd)
    (ss_cons (s_for PassesOwn.never rfl (i_seq (q_e (e_var 1))) (g_nm 4 hNd) (ss_cons (s_set 3 (e_op o_add (e_toB (e_var 3)) (e_toB (e_new (f_lc rfl hNd (i_seq (q_e (e_var 2))) (blkOk_by (own := [("warden", 5)]) (by kernel_rfl)) (fun s H C cl fp => (g_nm 5 hNd)) (fun s H C cl fp => (ts_one (t_cmp (c_nin (u100 hr)) b_nin (e_toB (e_var 5)) (e_toB (e_cut (e_toB (e_var 4)) (so_some (e_neg e_int)) so_none)) (by rfl)))) (fun s H C cl fp => (e_op o_add (e_toB (e_var 4)) (e_toB (e_tup (a_cons (e_var 5) a_nil))))))))) hNd)
    ss_nil))
    (ss_cons (s_set 1 (e_var 3) hNd)
    ss_nil))))
    (ss_cons (s_ret (e_var 1))
    ss_nil)))
theorem sc__law_parcels : FnScope ["weeks", "parcels", "at", "versions", "warden", "behind", "fit", "spot"] ["weeks"] (defScope s__law_parcels) := fnScope_by (by decide +kernel)
theorem ok__law_parcels (B : Bi mg) {fa : Addr} {fd : FuncData} (Fn : FunD K "_law_parcels" "_law_parcels" (defArgs s__law_parcels) (defBody s__law_parcels) (defScope s__law_parcels) [] [] fa fd) (hm : mg "_law_parcels" = some (.ref fa)) : DefOk P w K mg base T "_law_parcels" 1 1 F__law_parcels := by
  have hNd : (["weeks", "parcels", "at", "versions", "warden", "behind", "fit", "spot"] : List Str).Nodup := by decide
  exact def_ok (k := 0) Fn hm sc__law_parcels (by decide) (FunD.bindsN (ps := ["weeks"]) Fn fun _ _ _ _ _ _ us hl => match us, hl with | [_], _ => rfl) fun A outer s H E hr =>
    (ss_cons (s_set 1 (e_tup a_nil) hNd)
    (ss_cons (s_for PassesOwn.never rfl (i_range1 (q := false) B.range_ (e_len B.len_ (e_toB (e_var 0)))) (g_nm 2 hNd) (ss_cons (s_set 3 (e_tup a_nil) hNd)
    (ss_cons (s_for PassesOwn.never rfl (i_seq (q_e (e_back (e_toB (e_ix (u1 hr) (e_toB (e_var 0)) (e_var 2))) so_none))) (g_nm 4 hNd) (ss_cons (s_set 5 (e_if (t_cmp (c_lt (u64 hr)) b_lt (e_toB (e_op o_add (e_toB (e_var 2)) (e_toB e_int))) (e_toB (e_len B.len_ (e_toB (e_var 0)))) (nomark _)) (e_back (e_toB (e_ix (u1 hr) (e_toB (e_var 0)) (e_op o_add (e_toB (e_var 2)) (e_toB e_int)))) so_none) (e_tup a_nil)) hNd)
    (ss_cons (s_set 6 (e_tupOf B.tuple_ (e_toB (e_new (f_lc rfl hNd (i_range1 (q := false) B.range_ (e_len B.len_ (e_toB (e_var 5)))) (blkOk_by (own := [("spot", 7)]) (by kernel_rfl)) (fun s H C cl fp => (g_nm 7 hNd)) (fun s H C cl fp => (ts_one (t_cmp (c_ne (u64 hr)) b_ne (e_toB (e_ix (u1 hr) (e_toB (e_var 5)) (e_var 7))) (e_toB (e_var 4)) (nomark _)))) (fun s H C cl fp => (e_var 7)))))) hNd)
    (ss_cons (s_set 3 (e_op o_add (e_toB (e_var 3)) (e_toB (e_tup (a_cons (e_if (t_cmp (c_lt (u64 hr)) b_lt (e_toB (e_op o_add (e_toB (e_var 2)) (e_toB e_int))) (e_toB (e_len B.len_ (e_toB (e_var 0)))) (nomark _)) (e_tup (a_cons (e_tup (a_cons (e_op o_add (e_toB (e_var 2)) (e_toB e_int)) (a_cons (e_if (t_cmp (c_gt (u64 hr)) b_gt (e_toB (e_len B.len_ (e_toB (e_var 6)))) (e_toB e_int) (nomark _)) (e_var 6) (e_tup (a_cons e_int a_nil))) a_nil))) a_nil)) (e_tup a_nil)) a_nil)))) hNd)
    ss_nil))))
    (ss_cons (s_set 1 (e_op o_add (e_toB (e_var 1)) (e_toB (e_tup (a_cons (e_var 3) a_nil)))) hNd)
    ss_nil))))
    (ss_cons (s_ret (e_var 1))
    ss_nil)))
theorem sc__law_numbers : FnScope ["weeks", "wardens", "at"] ["weeks", "wardens"] (defScope s__law_numbers) := fnScope_by (by decide +kernel)
theorem ok__law_numbers (B : Bi mg) {fa : Addr} {fd : FuncData} (Fn : FunD K "_law_numbers" "_law_numbers" (defArgs s__law_numbers) (defBody s__law_numbers) (defScope s__law_numbers) [] [] fa fd) (hm : mg "_law_numbers" = some (.ref fa)) : DefOk P w K mg base T "_law_numbers" 1 2 F__law_numbers := by
  have hNd : (["weeks", "wardens", "at"] : List Str).Nodup := by decide
  exact def_ok (k := 0) Fn hm sc__law_numbers (by decide) (FunD.bindsN (ps := ["weeks", "wardens"]) Fn fun _ _ _ _ _ _ us hl => match us, hl with | [_, _], _ => rfl) fun A outer s H E hr =>
    (ss_cons (s_ret (e_tupOf B.tuple_ (e_toB (e_new (f_lc rfl hNd (i_range1 (q := false) B.range_ (e_len B.len_ (e_toB (e_var 0)))) (blkOk_by (own := [("at", 2)]) (by kernel_rfl)) (fun s H C cl fp => (g_nm 2 hNd)) (fun s H C cl fp => ts_nil) (fun s H C cl fp => (e_if (t_cmp (c_in (u100 hr)) b_in (e_toB (e_ix (u1 hr) (e_toB (e_var 1)) (e_var 2))) (e_toB (e_ix (u1 hr) (e_toB (e_var 0)) (e_var 2))) (by rfl)) (e_backIx (u100 hr) (e_toB (e_ix (u1 hr) (e_toB (e_var 0)) (e_var 2))) so_none (e_ix (u1 hr) (e_toB (e_var 1)) (e_var 2))) (e_op o_sub (e_toB e_int) (e_toB e_int)))))))))
    ss_nil)
theorem sc__law_alive : FnScope ["links", "starts", "found", "turn", "one", "other"] ["links", "starts"] (defScope s__law_alive) := fnScope_by (by decide +kernel)
theorem ok__law_alive (B : Bi mg) {fa : Addr} {fd : FuncData} (Fn : FunD K "_law_alive" "_law_alive" (defArgs s__law_alive) (defBody s__law_alive) (defScope s__law_alive) [] [] fa fd) (hm : mg "_law_alive" = some (.ref fa)) : DefOk P w K mg base T "_law_alive" 1 2 F__law_alive := by
  have hNd : (["links", "starts", "found", "turn", "one", "other"] : List Str).Nodup := by decide
  exact def_ok (k := 0) Fn hm sc__law_alive (by decide) (FunD.bindsN (ps := ["links", "starts"]) Fn fun _ _ _ _ _ _ us hl => match us, hl with | [_, _], _ => rfl) fun A outer s H E hr =>
    (ss_cons (s_set 2 (e_new (f_lstOf B.list_ (e_toB (e_var 1)))) hNd)
    (ss_cons (s_for PassesOwn.never rfl (i_range1 (q := false) B.range_ e_int) (g_nm 3 hNd) (ss_cons (s_set 2 (e_op o_add (e_toB (e_var 2)) (e_toB (e_new (f_sortSet B.sorted_ B.set_ (e_toB (e_new (f_lc rfl hNd (i_seq (q_e (e_var 0))) (blkOk_by (own := [("one", 4), ("other", 5)]) (by kernel_rfl)) (fun s H C cl fp => (g_tp (gs_cons (g_nm 4 hNd) (gs_cons (g_nm 5 hNd) gs_nil)))) (fun s H C cl fp => (ts_one (t_bool (t_and (t_cmp (c_in (u100 hr)) b_in (e_toB (e_var 4)) (e_toB (e_var 2)) (by rfl)) (t_and1 (t_cmp (c_nin (u100 hr)) b_nin (e_toB (e_var 5)) (e_toB (e_var 2)) (by rfl))))))) (fun s H C cl fp => (e_var 5))))))))) hNd)
    ss_nil))
    (ss_cons (s_ret (e_tupOf B.tuple_ (e_toB (e_new (f_sort (u100 hr) B.sorted_ (e_toB (e_var 2)))))))
    ss_nil)))
theorem sc__law_celled : FnScope ["weeks", "rows", "cells", "at", "links", "back", "first", "last", "there", "here", "week", "both", "warden", "on", "row"] ["weeks", "rows"] (defScope s__law_celled) := fnScope_by (by decide +kernel)
theorem ok__law_celled (B : Bi mg) (G_free_wardens : DefOk P w K mg base T "free_wardens" 2 2 F_free_wardens) (G_alive_cells : DefOk P w K mg base T "alive_cells" 2 3 F_alive_cells) (G__law_is : DefOk P w K mg base T "_law_is" 32 2 F__law_is) (G__law_alive : DefOk P w K mg base T "_law_alive" 1 2 F__law_alive) {fa : Addr} {fd : FuncData} (Fn : FunD K "_law_celled" "_law_celled" (defArgs s__law_celled) (defBody s__law_celled) (defScope s__law_celled) [] [] fa fd) (hm : mg "_law_celled" = some (.ref fa)) : DefOk P w K mg base T "_law_celled" 33 2 F__law_celled := by
  have hNd : (["weeks", "rows", "cells", "at", "links", "back", "first", "last", "there", "here", "week", "both", "warden", "on", "row"] : List Str).Nodup := by decide
  exact def_ok (k := 32) Fn hm sc__law_celled (by decide) (FunD.bindsN (ps := ["weeks", "rows"]) Fn fun _ _ _ _ _ _ us hl => match us, hl with | [_, _], _ => rfl) fun A outer s H E hr =>
    (ss_cons (s_set 2 (e_new (f_lst a_nil)) hNd)
    (ss_cons (s_for PassesOwn.never rfl (i_range1 (q := false) B.range_ (e_len B.len_ (e_toB (e_var 0)))) (g_nm 3 hNd) (ss_cons (s_set 2 (e_op o_add (e_toB (e_var 2)) (e_toB (e_new (f_lc rfl hNd (i_seq (q_e (e_ix (u1 hr) (e_toB (e_var 0)) (e_var 3)))) (blkOk_by (own := [("warden", 12)]) (by kernel_rfl)) (fun s H C cl fp => (g_nm 12 hNd)) (fun s H C cl fp => ts_nil) (fun s H C cl fp => (e_tup (a_cons (e_var 3) (a_cons (e_var 12) a_nil)))))))) hNd)
    ss_nil))
    (ss_cons (s_set 4 (e_new (f_lst a_nil)) hNd)
    (ss_cons (s_for PassesOwn.never rfl (i_range1 (q := false) B.range_ (e_len B.len_ (e_toB (e_var 2)))) (g_nm 3 hNd) (ss_cons (s_set 4 (e_op o_add (e_toB (e_var 4)) (e_toB (e_new (f_lc rfl hNd (i_range1 (q := false) B.range_ (e_len B.len_ (e_toB (e_var 2)))) (blkOk_by (own := [("on", 13)]) (by kernel_rfl)) (fun s H C cl fp => (g_nm 13 hNd)) (fun s H C cl fp => (ts_one (t_bool (t_and (t_cmp (c_eq (u64 hr)) b_eq (e_toB (e_ix (u1 hr) (e_toB (e_ix (u1 hr) (e_toB (e_var 2)) (e_var 13))) e_int)) (e_toB (e_op o_add (e_toB (e_ix (u1 hr) (e_toB (e_ix (u1 hr) (e_toB (e_var 2)) (e_var 3))) e_int)) (e_toB e_int))) (nomark _)) (t_and1 (t_cmp (c_ne (u64 hr)) b_ne (e_toB (e_ix (u1 hr) (e_toB (e_ix (u1 hr) (e_toB (e_var 2)) (e_var 13))) e_int)) (e_toB (e_ix (u1 hr) (e_toB (e_ix (u1 hr) (e_toB (e_var 2)) (e_var 3))) e_int)) (nomark _))))))) (fun s H C cl fp => (e_tup (a_cons (e_var 3) (a_cons (e_var 13) a_nil)))))))) hNd)
    ss_nil))
    (ss_cons (s_set 5 (e_tupOf B.tuple_ (e_toB (e_new (f_sort (u100 hr) B.sorted_ (e_toB (e_new (f_lc rfl hNd (i_seq (q_e (e_var 4))) (blkOk_by (own := [("at", 3), ("on", 13)]) (by kernel_rfl)) (fun s H C cl fp => (g_tp (gs_cons (g_nm 3 hNd) (gs_cons (g_nm 13 hNd) gs_nil)))) (fun s H C cl fp => ts_nil) (fun s H C cl fp => (e_tup (a_cons (e_var 13) (a_cons (e_var 3) a_nil))))))))))) hNd)
    (ss_cons (s_set 6 (e_tupOf B.tuple_ (e_toB (e_new (f_lc rfl hNd (i_range1 (q := false) B.range_ (e_len B.len_ (e_toB (e_var 2)))) (blkOk_by (own := [("at", 3)]) (by kernel_rfl)) (fun s H C cl fp => (g_nm 3 hNd)) (fun s H C cl fp => (ts_one (t_cmp (c_eq (u64 hr)) b_eq (e_toB (e_ix (u1 hr) (e_toB (e_ix (u1 hr) (e_toB (e_var 2)) (e_var 3))) e_int)) (e_toB e_int) (nomark _)))) (fun s H C cl fp => (e_var 3)))))) hNd)
    (ss_cons (s_set 7 (e_tupOf B.tuple_ (e_toB (e_new (f_lc rfl hNd (i_range1 (q := false) B.range_ (e_len B.len_ (e_toB (e_var 2)))) (blkOk_by (own := [("at", 3)]) (by kernel_rfl)) (fun s H C cl fp => (g_nm 3 hNd)) (fun s H C cl fp => (ts_one (t_cmp (c_eq (u64 hr)) b_eq (e_toB (e_ix (u1 hr) (e_toB (e_ix (u1 hr) (e_toB (e_var 2)) (e_var 3))) e_int)) (e_toB (e_op o_sub (e_toB (e_len B.len_ (e_toB (e_var 0)))) (e_toB e_int))) (nomark _)))) (fun s H C cl fp => (e_var 3)))))) hNd)
    (ss_cons (s_set 8 (e_call G_alive_cells hr (a_cons (e_len B.len_ (e_toB (e_var 2))) (a_cons (e_tupOf B.tuple_ (e_toB (e_var 4))) (a_cons (e_var 6) a_nil))) (by decide)) hNd)
    (ss_cons (s_set 9 (e_call G_alive_cells hr (a_cons (e_len B.len_ (e_toB (e_var 2))) (a_cons (e_var 5) (a_cons (e_var 7) a_nil))) (by decide)) hNd)
    (ss_cons (s_if (t_bool (t_or (t_not (t_tru (e_toB (e_call G__law_is hr (a_cons (e_var 8) (a_cons (e_call G__law_alive hr (a_cons (e_var 4) (a_cons (e_var 6) a_nil)) (by decide)) a_nil)) (by decide))))) (t_or1 (t_not (t_tru (e_toB (e_call G__law_is hr (a_cons (e_var 9) (a_cons (e_call G__law_alive hr (a_cons (e_var 5) (a_cons (e_var 7) a_nil)) (by decide)) a_nil)) (by decide)))))))) (ss_cons (s_ret e_bl)
    ss_nil) ss_nil)
    (ss_cons (s_if (t_bool (t_and (t_cmp (c_gt (u64 hr)) b_gt (e_toB (e_len B.len_ (e_toB (e_var 0)))) (e_toB e_int) (nomark _)) (t_and1 (t_cmp (c_ne (u64 hr)) b_ne (e_toB (e_cmp (c_gt (u64 hr)) b_gt (e_toB (e_len B.len_ (e_toB (e_new (f_lc rfl hNd (i_seq (q_e (e_var 7))) (blkOk_by (own := [("at", 3)]) (by kernel_rfl)) (fun s H C cl fp => (g_nm 3 hNd)) (fun s H C cl fp => (ts_one (t_cmp (c_in (u100 hr)) b_in (e_toB (e_var 3)) (e_toB (e_var 8)) (by rfl)))) (fun s H C cl fp => (e_var 3))))))) (e_toB e_int) (nomark _))) (e_toB (e_cmp (c_gt (u64 hr)) b_gt (e_toB (e_len B.len_ (e_toB (e_var 1)))) (e_toB e_int) (nomark _))) (nomark _))))) (ss_cons (s_ret e_bl)
    ss_nil) ss_nil)
    (ss_cons (s_for PassesOwn.never rfl (i_range1 (q := false) B.range_ (e_len B.len_ (e_toB (e_var 0)))) (g_nm 10 hNd) (ss_cons (s_set 11 (e_tupOf B.tuple_ (e_toB (e_new (f_lc rfl hNd (i_seq (q_e (e_var 8))) (blkOk_by (own := [("at", 3)]) (by kernel_rfl)) (fun s H C cl fp => (g_nm 3 hNd)) (fun s H C cl fp => (ts_one (t_bool (t_and (t_cmp (c_in (u100 hr)) b_in (e_toB (e_var 3)) (e_toB (e_var 9)) (by rfl)) (t_and1 (t_cmp (c_eq (u64 hr)) b_eq (e_toB (e_ix (u1 hr) (e_toB (e_ix (u1 hr) (e_toB (e_var 2)) (e_var 3))) e_int)) (e_toB (e_var 10)) (nomark _))))))) (fun s H C cl fp => (e_ix (u1 hr) (e_toB (e_ix (u1 hr) (e_toB (e_var 2)) (e_var 3))) e_int)))))) hNd)
    (ss_cons (s_if (t_bool (t_or (t_not (t_tru (e_toB (e_call G__law_is hr (a_cons (e_call G_free_wardens hr (a_cons (e_var 0) (a_cons (e_var 10) a_nil)) (by decide)) (a_cons (e_var 11) a_nil)) (by decide))))) (t_or1 (t_cmp (c_ne (u64 hr)) b_ne (e_toB (e_new (f_lstOf B.list_ (e_toB (e_var 11))))) (e_toB (e_new (f_sortSet B.sorted_ B.set_ (e_toB (e_new (f_lc rfl hNd (i_seq (q_e (e_var 1))) (blkOk_by (own := [("row", 14)]) (by kernel_rfl)) (fun s H C cl fp => (g_nm 14 hNd)) (fun s H C cl fp => ts_nil) (fun s H C cl fp => (e_ix (u1 hr) (e_toB (e_var 14)) (e_var 10))))))))) (nomark _))))) (ss_cons (s_ret e_bl)
    ss_nil) ss_nil)
    ss_nil)))
    (ss_cons (s_ret e_bl)
    ss_nil)))))))))))))
theorem sc__law_vised : FnScope ["weeks", "rows", "vise", "i", "j", "tight", "less", "able"] ["weeks", "rows"] (defScope s__law_vised) := fnScope_by (by decide +kernel)
theorem ok__law_vised (B : Bi mg) (G_told_duty : DefOk P w K mg base T "told_duty" 2 1 F_told_duty) (G_told_vise : DefOk P w K mg base T "told_vise" 3 1 F_told_vise) (G_number_of_duties : DefOk P w K mg base T "number_of_duties" 2 1 F_number_of_duties) (G__law_is : DefOk P w K mg base T "_law_is" 32 2 F__law_is) (G__law_is_integers : DefOk P w K mg base T "_law_is_integers" 2 1 F__law_is_integers) (G__law_duties : DefOk P w K mg base T "_law_duties" 1 1 F__law_duties) {fa : Addr} {fd : FuncData} (Fn : FunD K "_law_vised" "_law_vised" (defArgs s__law_vised) (defBody s__law_vised) (defScope s__law_vised) [] [] fa fd) (hm : mg "_law_vised" = some (.ref fa)) : DefOk P w K mg base T "_law_vised" 33 2 F__law_vised := by
  have hNd : (["weeks", "rows", "vise", "i", "j", "tight", "less", "able"] : List Str).Nodup := by decide
  exact def_ok (k := 32) Fn hm sc__law_vised (by decide) (FunD.bindsN (ps := ["weeks", "rows"]) Fn fun _ _ _ _ _ _ us hl => match us, hl with | [_, _], _ => rfl) fun A outer s H E hr =>
    (ss_cons (s_set 2 (e_call G_told_vise hr (a_cons (e_var 0) a_nil) (by decide)) hNd)
    (ss_cons (s_if (t_cmp (c_gt (u64 hr)) b_gt (e_toB (e_len B.len_ (e_toB (e_var 1)))) (e_toB e_int) (nomark _)) (ss_cons (s_ret (e_isN (e_toB (e_var 2))))
    ss_nil) ss_nil)
    (ss_cons (s_if (t_bool (t_or (t_not (t_tru (e_toB (e_call G__law_is_integers hr (a_cons (e_var 2) a_nil) (by decide))))) (t_or (t_cmp (c_ne (u64 hr)) b_ne (e_toB (e_len B.len_ (e_toB (e_var 2)))) (e_toB e_int) (nomark _)) (t_or1 (t_not (t_ch3 (c_le (u64 hr)) (c_le (u64 hr)) (c_lt (u64 hr)) b_le b_le b_lt (e_toB e_int) (e_toB (e_ix (u1 hr) (e_toB (e_var 2)) e_int)) (e_toB (e_ix (u1 hr) (e_toB (e_var 2)) e_int)) (e_toB (e_len B.len_ (e_toB (e_var 0)))))))))) (ss_cons (s_ret e_bl)
    ss_nil) ss_nil)
    (ss_cons (s_asg (e_var 2) (g_tp (gs_cons (g_nm 3 hNd) (gs_cons (g_nm 4 hNd) gs_nil))))
    (ss_cons (s_if (t_cmp (c_eq (u64 hr)) b_eq (e_toB (e_var 3)) (e_toB (e_var 4)) (nomark _)) (ss_cons (s_ret (e_cmp (c_eq (u64 hr)) b_eq (e_toB (e_ix (u1 hr) (e_toB (e_var 0)) (e_var 3))) (e_toB (e_tup a_nil)) (nomark _)))
    ss_nil) ss_nil)
    (ss_cons (s_set 5 (e_cut (e_toB (e_var 0)) (so_some (e_var 3)) (so_some (e_op o_add (e_toB (e_var 4)) (e_toB e_int)))) hNd)
    (ss_cons (s_if (t_bool (t_or (t_cmp (c_ne (u64 hr)) b_ne (e_toB (e_len B.len_ (e_toB (e_ix (u1 hr) (e_toB (e_var 5)) e_int)))) (e_toB e_int) (nomark _)) (t_or (t_cmp (c_ne (u64 hr)) b_ne (e_toB (e_len B.len_ (e_toB (e_ix (u1 hr) (e_toB (e_var 5)) (e_neg e_int))))) (e_toB e_int) (nomark _)) (t_or1 (t_not (t_tru (e_toB (e_allL B.all_ (e_toB (e_new (f_lc rfl hNd (i_seq (q_e (e_cut (e_toB (e_var 5)) (so_some e_int) (so_some (e_neg e_int))))) (blkOk_by (own := [("able", 7)]) (by kernel_rfl)) (fun s H C cl fp => (g_nm 7 hNd)) (fun s H C cl fp => ts_nil) (fun s H C cl fp => (e_cmp (c_eq (u64 hr)) b_eq (e_toB (e_len B.len_ (e_toB (e_var 7)))) (e_toB e_int) (nomark _)))))))))))))) (ss_cons (s_ret e_bl)
    ss_nil) ss_nil)
    (ss_cons (s_if (t_bool (t_or (t_cmp (c_gt (u64 hr)) b_gt (e_toB (e_len B.len_ (e_toB (e_call G__law_duties hr (a_cons (e_var 5) a_nil) (by decide))))) (e_toB e_int) (nomark _)) (t_or (t_not (t_tru (e_toB (e_call G__law_is hr (a_cons (e_call G_number_of_duties hr (a_cons (e_var 5) a_nil) (by decide)) (a_cons e_int a_nil)) (by decide))))) (t_or1 (t_notN (e_toB (e_call G_told_duty hr (a_cons (e_var 5) a_nil) (by decide)))))))) (ss_cons (s_ret e_bl)
    ss_nil) ss_nil)
    (ss_cons (s_for PassesOwn.never rfl (i_seq (q_e (e_new (f_lst (a_cons (e_cut (e_toB (e_var 5)) (so_some e_int) so_none) (a_cons (e_cut (e_toB (e_var 5)) so_none (so_some (e_neg e_int))) a_nil)))))) (g_nm 6 hNd) (ss_cons (s_if (t_bool (t_or (t_cmp (c_ne (u64 hr)) b_ne (e_toB (e_len B.len_ (e_toB (e_call G__law_duties hr (a_cons (e_var 6) a_nil) (by decide))))) (e_toB e_int) (nomark _)) (t_or (t_not (t_tru (e_toB (e_call G__law_is hr (a_cons (e_call G_number_of_duties hr (a_cons (e_var 6) a_nil) (by decide)) (a_cons e_int a_nil)) (by decide))))) (t_or1 (t_notN (e_toB (e_call G_told_vise hr (a_cons (e_var 6) a_nil) (by decide)))))))) (ss_cons (s_ret e_bl)
    ss_nil) ss_nil)
    ss_nil))
    (ss_cons (s_ret e_bl)
    ss_nil))))))))))
theorem sc__law_chosen : FnScope ["weeks", "rows", "draws", "parcels", "wishes", "due", "turn", "wardens", "at", "spot", "fine", "numbers", "total", "able"] ["weeks", "rows", "draws"] (defScope s__law_chosen) := fnScope_by (by decide +kernel)
theorem ok__law_chosen (B : Bi mg) (G_is_duty : DefOk P w K mg base T "is_duty" 2 2 F_is_duty) (G_is_choice : DefOk P w K mg base T "is_choice" 4 3 F_is_choice) (G_told_choice : DefOk P w K mg base T "told_choice" 36 2 F_told_choice) (G_number_of_choices : DefOk P w K mg base T "number_of_choices" 36 2 F_number_of_choices) (G_told_quarrel : DefOk P w K mg base T "told_quarrel" 39 2 F_told_quarrel) (G__law_is : DefOk P w K mg base T "_law_is" 32 2 F__law_is) (G__law_parcels : DefOk P w K mg base T "_law_parcels" 1 1 F__law_parcels) (G__law_numbers : DefOk P w K mg base T "_law_numbers" 1 2 F__law_numbers) {fa : Addr} {fd : FuncData} (Fn : FunD K "_law_chosen" "_law_chosen" (defArgs s__law_chosen) (defBody s__law_chosen) (defScope s__law_chosen) [] [] fa fd) (hm : mg "_law_chosen" = some (.ref fa)) : DefOk P w K mg base T "_law_chosen" 40 3 F__law_chosen := by
  have hNd : (["weeks", "rows", "draws", "parcels", "wishes", "due", "turn", "wardens", "at", "spot", "fine", "numbers", "total", "able"] : List Str).Nodup := by decide
  exact def_ok (k := 39) Fn hm sc__law_chosen (by decide) (FunD.bindsN (ps := ["weeks", "rows", "draws"]) Fn fun _ _ _ _ _ _ us hl => match us, hl with | [_, _, _], _ => rfl) fun A outer s H E hr =>
    (ss_cons (s_set 3 (e_call G__law_parcels hr (a_cons (e_var 0) a_nil) (by decide)) hNd)
    (ss_cons (s_set 4 (e_tupOf B.tuple_ (e_toB (e_new (f_lc rfl hNd (i_range1 (q := false) B.range_ (e_len B.len_ (e_toB (e_var 0)))) (blkOk_by (own := [("at", 8)]) (by kernel_rfl)) (fun s H C cl fp => (g_nm 8 hNd)) (fun s H C cl fp => ts_nil) (fun s H C cl fp => (e_tup (a_cons (e_var 8) (a_cons (e_tupRg1 B.tuple_ B.range_ (e_len B.len_ (e_toB (e_ix (u1 hr) (e_toB (e_var 0)) (e_var 8))))) a_nil)))))))) hNd)
    (ss_cons (s_set 5 (e_if (t_cmp (c_gt (u64 hr)) b_gt (e_toB (e_len B.len_ (e_toB (e_var 1)))) (e_toB e_int) (nomark _)) (e_call G__law_numbers hr (a_cons (e_var 0) (a_cons (e_ix (u1 hr) (e_toB (e_var 1)) e_int) a_nil)) (by decide)) e_non) hNd)
    (ss_cons (s_if (t_bool (t_or (t_not (t_tru (e_toB (e_call G__law_is hr (a_cons (e_call G_told_choice hr (a_cons (e_var 3) (a_cons (e_var 4) a_nil)) (by decide)) (a_cons (e_var 5) a_nil)) (by decide))))) (t_or1 (t_not (t_tru (e_toB (e_call G__law_is hr (a_cons (e_call G_number_of_choices hr (a_cons (e_var 3) (a_cons (e_var 4) a_nil)) (by decide)) (a_cons (e_len B.len_ (e_toB (e_var 1))) a_nil)) (by decide)))))))) (ss_cons (s_ret e_bl)
    ss_nil) ss_nil)
    (ss_cons (s_for PassesOwn.never rfl (i_range1 (q := false) B.range_ e_int) (g_nm 6 hNd) (ss_cons (s_set 7 (e_tup a_nil) hNd)
    (ss_cons (s_for PassesOwn.never rfl (i_range1 (q := false) B.range_ (e_len B.len_ (e_toB (e_var 0)))) (g_nm 8 hNd) (ss_cons (s_set 7 (e_op o_add (e_toB (e_var 7)) (e_toB (e_tup (a_cons (e_ix (u1 hr) (e_toB (e_ix (u1 hr) (e_toB (e_var 0)) (e_var 8))) (e_op o_mod (e_toB (e_intOf B.int_ (e_op o_fdiv (e_toB (e_ix (u1 hr) (e_toB (e_var 2)) (e_var 6))) (e_toB (e_ix (u1 hr) (e_toB (e_tup (a_cons e_int (a_cons e_int (a_cons e_int (a_cons e_int (a_cons e_int a_nil))))))) (e_var 8)))))) (e_toB (e_len B.len_ (e_toB (e_ix (u1 hr) (e_toB (e_var 0)) (e_var 8))))))) a_nil)))) hNd)
    ss_nil))
    (ss_cons (s_if (t_bool (t_and (t_cmp (c_eq (u64 hr)) b_eq (e_toB (e_var 6)) (e_toB e_int) (nomark _)) (t_and1 (t_cmp (c_gt (u64 hr)) b_gt (e_toB (e_len B.len_ (e_toB (e_var 1)))) (e_toB e_int) (nomark _))))) (ss_cons (s_set 7 (e_ix (u1 hr) (e_toB (e_var 1)) (e_op o_mod (e_toB (e_intOf B.int_ (e_ix (u1 hr) (e_toB (e_var 2)) e_int))) (e_toB (e_len B.len_ (e_toB (e_var 1)))))) hNd)
    ss_nil) ss_nil)
    (ss_cons (s_if (t_bool (t_and (t_cmp (c_eq (u64 hr)) b_eq (e_toB (e_var 6)) (e_toB e_int) (nomark _)) (t_and (t_cmp (c_gt (u64 hr)) b_gt (e_toB (e_len B.len_ (e_toB (e_var 1)))) (e_toB e_int) (nomark _)) (t_and1 (t_cmp (c_gt (u64 hr)) b_gt (e_toB (e_len B.len_ (e_toB (e_var 0)))) (e_toB e_int) (nomark _)))))) (ss_cons (s_set 9 (e_op o_mod (e_toB (e_intOf B.int_ (e_ix (u1 hr) (e_toB (e_var 2)) e_int))) (e_toB (e_max2 B.max_ e_int (e_len B.len_ (e_toB (e_var 0)))))) hNd)
    (ss_cons (s_set 7 (e_op o_add (e_toB (e_op o_add (e_toB (e_cut (e_toB (e_ix (u1 hr) (e_toB (e_var 1)) (e_neg e_int))) so_none (so_some (e_var 9)))) (e_toB (e_tup (a_cons e_int a_nil))))) (e_toB (e_cut (e_toB (e_ix (u1 hr) (e_toB (e_var 1)) (e_neg e_int))) (so_some (e_op o_add (e_toB (e_var 9)) (e_toB e_int))) so_none))) hNd)
    ss_nil)) ss_nil)
    (ss_cons (s_set 10 (e_cmp (c_in (u100 hr)) b_in (e_toB (e_var 7)) (e_toB (e_var 1)) (by rfl)) hNd)
    (ss_cons (s_set 11 (e_call G__law_numbers hr (a_cons (e_var 0) (a_cons (e_var 7) a_nil)) (by decide)) hNd)
    (ss_cons (s_if (t_bool (t_or (t_not (t_tru (e_toB (e_call G__law_is hr (a_cons (e_call G_is_duty hr (a_cons (e_var 0) (a_cons (e_var 7) a_nil)) (by decide)) (a_cons (e_var 10) a_nil)) (by decide))))) (t_or1 (t_not (t_tru (e_toB (e_call G__law_is hr (a_cons (e_call G_is_choice hr (a_cons (e_var 3) (a_cons (e_var 4) (a_cons (e_var 11) a_nil))) (by decide)) (a_cons (e_var 10) a_nil)) (by decide)))))))) (ss_cons (s_ret e_bl)
    ss_nil) ss_nil)
    ss_nil))))))))
    (ss_cons (s_set 12 e_int hNd)
    (ss_cons (s_for PassesOwn.never rfl (i_seq (q_e (e_var 0))) (g_nm 13 hNd) (ss_cons (s_set 12 (e_op o_mulI (e_toB (e_var 12)) (e_toB (e_op o_add (e_toB (e_len B.len_ (e_toB (e_var 13)))) (e_toB e_int)))) hNd)
    ss_nil))
    (ss_cons (s_if (t_bool (t_or (t_cmp (c_gt (u64 hr)) b_gt (e_toB (e_var 12)) (e_toB e_int) (nomark _)) (t_or1 (t_cmp (c_eq (u64 hr)) b_eq (e_toB (e_len B.len_ (e_toB (e_var 0)))) (e_toB e_int) (nomark _))))) (ss_cons (s_ret e_bl)
    ss_nil) ss_nil)
    (ss_cons (s_ret (e_call G__law_is hr (a_cons (e_call G_told_quarrel hr (a_cons (e_var 3) (a_cons (e_var 4) a_nil)) (by decide)) (a_cons (e_if (t_cmp (c_gt (u64 hr)) b_gt (e_toB (e_len B.len_ (e_toB (e_var 1)))) (e_toB e_int) (nomark _)) e_non (e_tup (a_cons e_int a_nil))) a_nil)) (by decide)))
    ss_nil)))))))))
theorem sc__law_asked : FnScope ["weeks", "draws", "rows", "able"] ["weeks", "draws"] (defScope s__law_asked) := fnScope_by (by decide +kernel)
theorem ok__law_asked (B : Bi mg) (G_is_duty : DefOk P w K mg base T "is_duty" 2 2 F_is_duty) (G_told_duty : DefOk P w K mg base T "told_duty" 2 1 F_told_duty) (G_number_of_duties : DefOk P w K mg base T "number_of_duties" 2 1 F_number_of_duties) (G__law_is : DefOk P w K mg base T "_law_is" 32 2 F__law_is) (G__law_duties : DefOk P w K mg base T "_law_duties" 1 1 F__law_duties) (G__law_celled : DefOk P w K mg base T "_law_celled" 33 2 F__law_celled) (G__law_vised : DefOk P w K mg base T "_law_vised" 33 2 F__law_vised) (G__law_chosen : DefOk P w K mg base T "_law_chosen" 40 3 F__law_chosen) {fa : Addr} {fd : FuncData} (Fn : FunD K "_law_asked" "_law_asked" (defArgs s__law_asked) (defBody s__law_asked) (defScope s__law_asked) [] [] fa fd) (hm : mg "_law_asked" = some (.ref fa)) : DefOk P w K mg base T "_law_asked" 41 2 F__law_asked := by
  have hNd : (["weeks", "draws", "rows", "able"] : List Str).Nodup := by decide
  exact def_ok (k := 40) Fn hm sc__law_asked (by decide) (FunD.bindsN (ps := ["weeks", "draws"]) Fn fun _ _ _ _ _ _ us hl => match us, hl with | [_, _], _ => rfl) fun A outer s H E hr =>
    (ss_cons (s_set 2 (e_call G__law_duties hr (a_cons (e_var 0) a_nil) (by decide)) hNd)
    (ss_cons (s_if (t_bool (t_or (t_not (t_tru (e_toB (e_call G__law_is hr (a_cons (e_call G_number_of_duties hr (a_cons (e_var 0) a_nil) (by decide)) (a_cons (e_len B.len_ (e_toB (e_var 2))) a_nil)) (by decide))))) (t_or1 (t_not (t_tru (e_toB (e_call G__law_is hr (a_cons (e_call G_told_duty hr (a_cons (e_var 0) a_nil) (by decide)) (a_cons (e_if (t_cmp (c_gt (u64 hr)) b_gt (e_toB (e_len B.len_ (e_toB (e_var 2)))) (e_toB e_int) (nomark _)) (e_ix (u1 hr) (e_toB (e_var 2)) e_int) e_non) a_nil)) (by decide)))))))) (ss_cons (s_ret e_bl)
    ss_nil) ss_nil)
    (ss_cons (s_if (t_bool (t_or (t_not (t_tru (e_toB (e_call G__law_celled hr (a_cons (e_var 0) (a_cons (e_var 2) a_nil)) (by decide))))) (t_or1 (t_not (t_tru (e_toB (e_call G__law_vised hr (a_cons (e_var 0) (a_cons (e_var 2) a_nil)) (by decide)))))))) (ss_cons (s_ret e_bl)
    ss_nil) ss_nil)
    (ss_cons (s_if (t_cmp (c_gt (u64 hr)) b_gt (e_toB (e_len B.len_ (e_toB (e_new (f_lc rfl hNd (i_seq (q_e (e_var 0))) (blkOk_by (own := [("able", 3)]) (by kernel_rfl)) (fun s H C cl fp => (g_nm 3 hNd)) (fun s H C cl fp => (ts_one (t_cmp (c_eq (u64 hr)) b_eq (e_toB (e_var 3)) (e_toB (e_tup a_nil)) (nomark _)))) (fun s H C cl fp => e_int)))))) (e_toB e_int) (nomark _)) (ss_cons (s_ret (e_call G__law_is hr (a_cons (e_call G_is_duty hr (a_cons (e_var 0) (a_cons (e_op o_mulT (e_toB (e_tup (a_cons e_int a_nil))) (e_toB (e_len B.len_ (e_toB (e_var 0))))) a_nil)) (by decide)) (a_cons e_bl a_nil)) (by decide)))
    ss_nil) ss_nil)
    (ss_cons (s_ret (e_call G__law_chosen hr (a_cons (e_var 0) (a_cons (e_var 2) (a_cons (e_var 1) a_nil))) (by decide)))
    ss_nil)))))
theorem sc_law : FnScope ["script", "draws", "k", "part", "weeks", "at", "one", "size", "able", "left", "step", "some"] ["script"] (defScope s_law) := fnScope_by (by decide +kernel)
theorem ok_law (B : Bi mg) (G__law_cell : DefOk P w K mg base T "_law_cell" 1 2 F__law_cell) (G__law_draws : DefOk P w K mg base T "_law_draws" 1 2 F__law_draws) (G__law_asked : DefOk P w K mg base T "_law_asked" 41 2 F__law_asked) {fa : Addr} {fd : FuncData} (Fn : FunD K "law" "law" (defArgs s_law) (defBody s_law) (defScope s_law) [] [] fa fd) : FnOk P w K mg base CX0 42 fa fd ["script"] (spD K T 1 F_law) := by
  have hNd : (["script", "draws", "k", "part", "weeks", "at", "one", "size", "able", "left", "step", "some"] : List Str).Nodup := by decide
  exact fn_ok (k := 41) Fn sc_law (by decide) fun A outer s H E hr =>
    (ss_cons (s_set 1 (e_call G__law_draws hr (a_cons (e_call G__law_cell hr (a_cons (e_var 0) (a_cons e_int a_nil)) (by decide)) (a_cons e_int a_nil)) (by decide)) hNd)
    (ss_cons (s_if (t_bool (t_or (t_not (t_tru (e_toB (e_call G__law_asked hr (a_cons (e_tup (a_cons (e_tup (a_cons e_int a_nil)) (a_cons (e_tup (a_cons e_int (a_cons e_int a_nil))) (a_cons (e_tup (a_cons e_int (a_cons e_int a_nil))) (a_cons (e_tup (a_cons e_int a_nil)) a_nil))))) (a_cons (e_var 1) a_nil)) (by decide))))) (t_or1 (t_not (t_tru (e_toB (e_call G__law_asked hr (a_cons (e_tup (a_cons (e_tup (a_cons e_int (a_cons e_int a_nil))) (a_cons (e_tup (a_cons e_int (a_cons e_int a_nil))) (a_cons (e_tup (a_cons e_int (a_cons e_int a_nil))) a_nil)))) (a_cons (e_var 1) a_nil)) (by decide)))))))) (ss_cons (s_ret e_bl)
    ss_nil) ss_nil)
    (ss_cons (s_if (t_not (t_tru (e_toB (e_call G__law_asked hr (a_cons (e_tup (a_cons (e_tup (a_cons e_int a_nil)) (a_cons (e_tup a_nil) (a_cons (e_tup (a_cons e_int a_nil)) a_nil)))) (a_cons (e_var 1) a_nil)) (by decide))))) (ss_cons (s_ret e_bl)
    ss_nil) ss_nil)
    (ss_cons (s_for PassesOwn.never rfl (i_range1 (q := false) B.range_ e_int) (g_nm 2 hNd) (ss_cons (s_set 3 (e_call G__law_draws hr (a_cons (e_call G__law_cell hr (a_cons (e_var 0) (a_cons (e_op o_add (e_toB e_int) (e_toB (e_var 2))) a_nil)) (by decide)) (a_cons e_int a_nil)) (by decide)) hNd)
    (ss_cons (s_set 4 (e_tup a_nil) hNd)
    (ss_cons (s_for PassesOwn.never rfl (i_range1 (q := false) B.range_ (e_ix (u1 hr) (e_toB (e_tup (a_cons e_int (a_cons e_int (a_cons e_int (a_cons e_int (a_cons e_int (a_cons e_int a_nil)))))))) (e_op o_mod (e_toB (e_intOf B.int_ (e_ix (u1 hr) (e_toB (e_var 1)) (e_op o_add (e_toB e_int) (e_toB (e_var 2)))))) (e_toB e_int)))) (g_nm 5 hNd) (ss_cons (s_set 6 (e_intOf B.int_ (e_ix (u1 hr) (e_toB (e_var 3)) (e_var 5))) hNd)
    (ss_cons (s_set 7 (e_ix (u1 hr) (e_toB (e_tup (a_cons e_int (a_cons e_int (a_cons e_int (a_cons e_int (a_cons e_int (a_cons e_int (a_cons e_int a_nil))))))))) (e_op o_mod (e_toB (e_var 6)) (e_toB e_int))) hNd)
    (ss_cons (s_setLc 8 rfl hNd (i_range1 (q := false) B.range_ (e_var 7)) (blkOk_by (own := [("step", 10)]) (by kernel_rfl)) (fun s H C cl fp => (g_nm 10 hNd)) (fun s H C cl fp => ts_nil) (fun s H C cl fp => (e_op o_mod (e_toB (e_intOf B.int_ (e_op o_add (e_toB (e_op o_fdiv (e_toB (e_var 6)) (e_toB e_int))) (e_toB (e_op o_mulI (e_toB (e_var 10)) (e_toB (e_op o_add (e_toB e_int) (e_toB (e_op o_mod (e_toB (e_op o_fdiv (e_toB (e_var 6)) (e_toB e_int))) (e_toB e_int)))))))))) (e_toB e_int))))
    (ss_cons (s_set 9 (e_op o_sub (e_toB e_int) (e_toB (e_sum B.sum_ (e_toB (e_new (f_lc rfl hNd (i_seq (q_e (e_var 4))) (blkOk_by (own := [("some", 11)]) (by kernel_rfl)) (fun s H C cl fp => (g_nm 11 hNd)) (fun s H C cl fp => ts_nil) (fun s H C cl fp => (e_len B.len_ (e_toB (e_var 11)))))))))) hNd)
    (ss_cons (s_set 4 (e_op o_add (e_toB (e_var 4)) (e_toB (e_tup (a_cons (e_cut (e_toB (e_tupOf B.tuple_ (e_toB (e_new (f_sortSet B.sorted_ B.set_ (e_toB (e_var 8))))))) so_none (so_some (e_var 9))) a_nil)))) hNd)
    ss_nil))))))
    (ss_cons (s_if (t_not (t_tru (e_toB (e_call G__law_asked hr (a_cons (e_var 4) (a_cons (e_cut (e_toB (e_var 1)) (so_some (e_op o_add (e_toB e_int) (e_toB (e_var 2)))) so_none) a_nil)) (by decide))))) (ss_cons (s_ret e_bl)
    ss_nil) ss_nil)
    ss_nil)))))
    (ss_cons (s_ret e_bl)
    ss_nil)))))
end
/-! ### the head and the law -/
theorem law_ok {w : World} {K : PySem.W.Frag} {h : Heap} {mg : Str → Option Value} {f : Addr} (X : K.In h) (G : h.Ns mainGlobals mg) (hfa : mg ("law" : Str) = some (.ref f)) (c : He.SaysX fa fn [] tf (fun _ => true) w h K)
    (hF : ∀ ns : List Int, ns.length ≤ 63 → F_law [.list (ns.map .int)] = some (.bool true)) : LamX.LawAtS PySem.Challenge.rw_runwarden_k93_whole_weeks_as_parcels w K CX0 42 63 "script" mg f h := by
  have cd := c.t.d
  have B : Bi mg := ⟨He.free_ok X G (cd.fact 32 (f := .free "abs") rfl), He.free_ok X G (cd.fact 33 (f := .free "all") rfl), He.free_ok X G (cd.fact 34 (f := .free "bool") rfl), He.free_ok X G (cd.fact 35 (f := .free "int") rfl), He.free_ok X G (cd.fact 36 (f := .free "isinstance") rfl), He.free_ok X G (cd.fact 37 (f := .free "len") rfl), He.free_ok X G (cd.fact 38 (f := .free "list") rfl), He.free_ok X G (cd.fact 39 (f := .free "max") rfl), He.free_ok X G (cd.fact 40 (f := .free "range") rfl), He.free_ok X G (cd.fact 41 (f := .free "reversed") rfl), He.free_ok X G (cd.fact 42 (f := .free "set") rfl), He.free_ok X G (cd.fact 43 (f := .free "sorted") rfl), He.free_ok X G (cd.fact 44 (f := .free "str") rfl), He.free_ok X G (cd.fact 45 (f := .free "sum") rfl), He.free_ok X G (cd.fact 46 (f := .free "tuple") rfl), He.free_ok X G (cd.fact 47 (f := .free "zip") rfl)⟩
  obtain ⟨fd0, D0⟩ := cd.def_ 0 (d := dD "is_duty" s_is_duty) rfl
  obtain ⟨fd1, D1⟩ := cd.def_ 1 (d := dD "ways_behind" s_ways_behind) rfl
  obtain ⟨fd2, D2⟩ := cd.def_ 2 (d := dD "told_duty" s_told_duty) rfl
  obtain ⟨fd3, D3⟩ := cd.def_ 3 (d := dD "bound_by" s_bound_by) rfl
  obtain ⟨fd4, D4⟩ := cd.def_ 4 (d := dD "is_vise" s_is_vise) rfl
  obtain ⟨fd5, D5⟩ := cd.def_ 5 (d := dD "told_vise" s_told_vise) rfl
  obtain ⟨fd6, D6⟩ := cd.def_ 6 (d := dD "number_of_duties" s_number_of_duties) rfl
  obtain ⟨fd7, D7⟩ := cd.def_ 7 (d := dD "free_wardens" s_free_wardens) rfl
  obtain ⟨fd8, D8⟩ := cd.def_ 8 (d := dD "reached_from" s_reached_from) rfl
  obtain ⟨fd9, D9⟩ := cd.def_ 9 (d := dD "alive_cells" s_alive_cells) rfl
  obtain ⟨fd10, D10⟩ := cd.def_ 10 (d := dD "all_sets" s_all_sets) rfl
  obtain ⟨fd11, D11⟩ := cd.def_ 11 (d := dD "are_met" s_are_met) rfl
  obtain ⟨fd12, D12⟩ := cd.def_ 12 (d := dD "is_choice" s_is_choice) rfl
  obtain ⟨fd13, D13⟩ := cd.def_ 13 (d := dD "choices_from" s_choices_from) rfl
  obtain ⟨fd14, D14⟩ := cd.def_ 14 (d := dD "told_choice" s_told_choice) rfl
  obtain ⟨fd15, D15⟩ := cd.def_ 15 (d := dD "number_of_choices" s_number_of_choices) rfl
  obtain ⟨fd16, D16⟩ := cd.def_ 16 (d := dD "has_choice" s_has_choice) rfl
  obtain ⟨fd17, D17⟩ := cd.def_ 17 (d := dD "told_quarrel" s_told_quarrel) rfl
  obtain ⟨fd18, D18⟩ := cd.def_ 18 (d := dD "_law_cell" s__law_cell) rfl
  obtain ⟨fd19, D19⟩ := cd.def_ 19 (d := dD "_law_draws" s__law_draws) rfl
  obtain ⟨fd20, D20⟩ := cd.def_ 20 (d := dD "_law_is_integer" s__law_is_integer) rfl
  obtain ⟨fd21, D21⟩ := cd.def_ 21 (d := dD "_law_is" s__law_is) rfl
  obtain ⟨fd22, D22⟩ := cd.def_ 22 (d := dD "_law_is_integers" s__law_is_integers) rfl
  obtain ⟨fd23, D23⟩ := cd.def_ 23 (d := dD "_law_duties" s__law_duties) rfl
  obtain ⟨fd24, D24⟩ := cd.def_ 24 (d := dD "_law_parcels" s__law_parcels) rfl
  obtain ⟨fd25, D25⟩ := cd.def_ 25 (d := dD "_law_numbers" s__law_numbers) rfl
  obtain ⟨fd26, D26⟩ := cd.def_ 26 (d := dD "_law_alive" s__law_alive) rfl
  obtain ⟨fd27, D27⟩ := cd.def_ 27 (d := dD "_law_celled" s__law_celled) rfl
  obtain ⟨fd28, D28⟩ := cd.def_ 28 (d := dD "_law_vised" s__law_vised) rfl
  obtain ⟨fd29, D29⟩ := cd.def_ 29 (d := dD "_law_chosen" s__law_chosen) rfl
  obtain ⟨fd30, D30⟩ := cd.def_ 30 (d := dD "_law_asked" s__law_asked) rfl
  obtain ⟨fd31, D31⟩ := cd.def_ 31 (d := dD "law" s_law) rfl
  have e := hfa.symm.trans (He.glo_ok X G (cd.fact 31 (f := .glo "law") rfl))
  cases e
  refine law_at X c (fun s u => (FunD.bindsA (ps := ["script"]) D31 fun _ _ _ _ _ _ us hl => match us, hl with | [_], _ => rfl) s [u] rfl) hF fun base bX bG TB => ?_
  have G_is_duty := ok_is_duty (P := PySem.W.OpenLaw.prog PySem.Challenge.rw_runwarden_k93_whole_weeks_as_parcels) (w := w) (base := base) (T := (tf.map (He.cT K)).map (·.2)) B D0 (He.glo_ok X G (cd.fact 0 (f := .glo "is_duty") rfl)) (tab_in (p := ("is_duty", none)) (by decide)) (TB ("is_duty", none) (by decide)) (code_of D0)
  have G_ways_behind := ok_ways_behind (P := PySem.W.OpenLaw.prog PySem.Challenge.rw_runwarden_k93_whole_weeks_as_parcels) (w := w) (base := base) (T := (tf.map (He.cT K)).map (·.2)) B D1 (He.glo_ok X G (cd.fact 1 (f := .glo "ways_behind") rfl))
  have G_told_duty := ok_told_duty (P := PySem.W.OpenLaw.prog PySem.Challenge.rw_runwarden_k93_whole_weeks_as_parcels) (w := w) (base := base) (T := (tf.map (He.cT K)).map (·.2)) B G_ways_behind D2 (He.glo_ok X G (cd.fact 2 (f := .glo "told_duty") rfl))
  have G_bound_by := ok_bound_by (P := PySem.W.OpenLaw.prog PySem.Challenge.rw_runwarden_k93_whole_weeks_as_parcels) (w := w) (base := base) (T := (tf.map (He.cT K)).map (·.2)) B D3 (He.glo_ok X G (cd.fact 3 (f := .glo "bound_by") rfl))
  have G_is_vise := ok_is_vise (P := PySem.W.OpenLaw.prog PySem.Challenge.rw_runwarden_k93_whole_weeks_as_parcels) (w := w) (base := base) (T := (tf.map (He.cT K)).map (·.2)) B G_bound_by D4 (He.glo_ok X G (cd.fact 4 (f := .glo "is_vise") rfl))
  have G_told_vise := ok_told_vise (P := PySem.W.OpenLaw.prog PySem.Challenge.rw_runwarden_k93_whole_weeks_as_parcels) (w := w) (base := base) (T := (tf.map (He.cT K)).map (·.2)) B G_is_vise D5 (He.glo_ok X G (cd.fact 5 (f := .glo "told_vise") rfl))
  have G_number_of_duties := ok_number_of_duties (P := PySem.W.OpenLaw.prog PySem.Challenge.rw_runwarden_k93_whole_weeks_as_parcels) (w := w) (base := base) (T := (tf.map (He.cT K)).map (·.2)) B G_ways_behind D6 (He.glo_ok X G (cd.fact 6 (f := .glo "number_of_duties") rfl))
  have G_free_wardens := ok_free_wardens (P := PySem.W.OpenLaw.prog PySem.Challenge.rw_runwarden_k93_whole_weeks_as_parcels) (w := w) (base := base) (T := (tf.map (He.cT K)).map (·.2)) B G_ways_behind D7 (He.glo_ok X G (cd.fact 7 (f := .glo "free_wardens") rfl))
  have G_reached_from := ok_reached_from (P := PySem.W.OpenLaw.prog PySem.Challenge.rw_runwarden_k93_whole_weeks_as_parcels) (w := w) (base := base) (T := (tf.map (He.cT K)).map (·.2)) B D8 (He.glo_ok X G (cd.fact 8 (f := .glo "reached_from") rfl))
  have G_alive_cells := ok_alive_cells (P := PySem.W.OpenLaw.prog PySem.Challenge.rw_runwarden_k93_whole_weeks_as_parcels) (w := w) (base := base) (T := (tf.map (He.cT K)).map (·.2)) B G_reached_from D9 (He.glo_ok X G (cd.fact 9 (f := .glo "alive_cells") rfl))
  have G_all_sets := ok_all_sets (P := PySem.W.OpenLaw.prog PySem.Challenge.rw_runwarden_k93_whole_weeks_as_parcels) (w := w) (base := base) (T := (tf.map (He.cT K)).map (·.2)) B D10 (He.glo_ok X G (cd.fact 10 (f := .glo "all_sets") rfl))
  have G_are_met := ok_are_met (P := PySem.W.OpenLaw.prog PySem.Challenge.rw_runwarden_k93_whole_weeks_as_parcels) (w := w) (base := base) (T := (tf.map (He.cT K)).map (·.2)) B D11 (He.glo_ok X G (cd.fact 11 (f := .glo "are_met") rfl)) (tab_in (p := ("are_met", none)) (by decide)) (TB ("are_met", none) (by decide)) (code_of D11)
  have G_is_choice := ok_is_choice (P := PySem.W.OpenLaw.prog PySem.Challenge.rw_runwarden_k93_whole_weeks_as_parcels) (w := w) (base := base) (T := (tf.map (He.cT K)).map (·.2)) B G_are_met D12 (He.glo_ok X G (cd.fact 12 (f := .glo "is_choice") rfl)) (tab_in (p := ("is_choice", none)) (by decide)) (TB ("is_choice", none) (by decide)) (code_of D12)
  have G_choices_from := ok_choices_from (P := PySem.W.OpenLaw.prog PySem.Challenge.rw_runwarden_k93_whole_weeks_as_parcels) (w := w) (base := base) (T := (tf.map (He.cT K)).map (·.2)) B G_is_choice D13 (He.glo_ok X G (cd.fact 13 (f := .glo "choices_from") rfl))
  have G_told_choice := ok_told_choice (P := PySem.W.OpenLaw.prog PySem.Challenge.rw_runwarden_k93_whole_weeks_as_parcels) (w := w) (base := base) (T := (tf.map (He.cT K)).map (·.2)) B G_choices_from D14 (He.glo_ok X G (cd.fact 14 (f := .glo "told_choice") rfl))
  have G_number_of_choices := ok_number_of_choices (P := PySem.W.OpenLaw.prog PySem.Challenge.rw_runwarden_k93_whole_weeks_as_parcels) (w := w) (base := base) (T := (tf.map (He.cT K)).map (·.2)) B G_choices_from D15 (He.glo_ok X G (cd.fact 15 (f := .glo "number_of_choices") rfl))
  have G_has_choice := ok_has_choice (P := PySem.W.OpenLaw.prog PySem.Challenge.rw_runwarden_k93_whole_weeks_as_parcels) (w := w) (base := base) (T := (tf.map (He.cT K)).map (·.2)) B G_told_choice D16 (He.glo_ok X G (cd.fact 16 (f := .glo "has_choice") rfl))
  have G_told_quarrel := ok_told_quarrel (P := PySem.W.OpenLaw.prog PySem.Challenge.rw_runwarden_k93_whole_weeks_as_parcels) (w := w) (base := base) (T := (tf.map (He.cT K)).map (·.2)) B G_all_sets G_has_choice D17 (He.glo_ok X G (cd.fact 17 (f := .glo "told_quarrel") rfl)) (tab_in (p := ("told_quarrel", none)) (by decide)) (TB ("told_quarrel", none) (by decide)) (code_of D17)
  have G__law_cell := ok__law_cell (P := PySem.W.OpenLaw.prog PySem.Challenge.rw_runwarden_k93_whole_weeks_as_parcels) (w := w) (base := base) (T := (tf.map (He.cT K)).map (·.2)) B D18 (He.glo_ok X G (cd.fact 18 (f := .glo "_law_cell") rfl))
  have G__law_draws := ok__law_draws (P := PySem.W.OpenLaw.prog PySem.Challenge.rw_runwarden_k93_whole_weeks_as_parcels) (w := w) (base := base) (T := (tf.map (He.cT K)).map (·.2)) B D19 (He.glo_ok X G (cd.fact 19 (f := .glo "_law_draws") rfl))
  have G__law_is_integer := ok__law_is_integer (P := PySem.W.OpenLaw.prog PySem.Challenge.rw_runwarden_k93_whole_weeks_as_parcels) (w := w) (base := base) (T := (tf.map (He.cT K)).map (·.2)) B D20 (He.glo_ok X G (cd.fact 20 (f := .glo "_law_is_integer") rfl))
  have G__law_is := ok__law_is (P := PySem.W.OpenLaw.prog PySem.Challenge.rw_runwarden_k93_whole_weeks_as_parcels) (w := w) (base := base) (T := (tf.map (He.cT K)).map (·.2)) B G__law_is_integer D21 (He.glo_ok X G (cd.fact 21 (f := .glo "_law_is") rfl))
  have G__law_is_integers := ok__law_is_integers (P := PySem.W.OpenLaw.prog PySem.Challenge.rw_runwarden_k93_whole_weeks_as_parcels) (w := w) (base := base) (T := (tf.map (He.cT K)).map (·.2)) B G__law_is_integer D22 (He.glo_ok X G (cd.fact 22 (f := .glo "_law_is_integers") rfl))
  have G__law_duties := ok__law_duties (P := PySem.W.OpenLaw.prog PySem.Challenge.rw_runwarden_k93_whole_weeks_as_parcels) (w := w) (base := base) (T := (tf.map (He.cT K)).map (·.2)) B D23 (He.glo_ok X G (cd.fact 23 (f := .glo "_law_duties") rfl))
  have G__law_parcels := ok__law_parcels (P := PySem.W.OpenLaw.prog PySem.Challenge.rw_runwarden_k93_whole_weeks_as_parcels) (w := w) (base := base) (T := (tf.map (He.cT K)).map (·.2)) B D24 (He.glo_ok X G (cd.fact 24 (f := .glo "_law_parcels") rfl))
  have G__law_numbers := ok__law_numbers (P := PySem.W.OpenLaw.prog PySem.Challenge.rw_runwarden_k93_whole_weeks_as_parcels) (w := w) (base := base) (T := (tf.map (He.cT K)).map (·.2)) B D25 (He.glo_ok X G (cd.fact 25 (f := .glo "_law_numbers") rfl))
  have G__law_alive := ok__law_alive (P := PySem.W.OpenLaw.prog PySem.Challenge.rw_runwarden_k93_whole_weeks_as_parcels) (w := w) (base := base) (T := (tf.map (He.cT K)).map (·.2)) B D26 (He.glo_ok X G (cd.fact 26 (f := .glo "_law_alive") rfl))
  have G__law_celled := ok__law_celled (P := PySem.W.OpenLaw.prog PySem.Challenge.rw_runwarden_k93_whole_weeks_as_parcels) (w := w) (base := base) (T := (tf.map (He.cT K)).map (·.2)) B G_free_wardens G_alive_cells G__law_is G__law_alive D27 (He.glo_ok X G (cd.fact 27 (f := .glo "_law_celled") rfl))
  have G__law_vised := ok__law_vised (P := PySem.W.OpenLaw.prog PySem.Challenge.rw_runwarden_k93_whole_weeks_as_parcels) (w := w) (base := base) (T := (tf.map (He.cT K)).map (·.2)) B G_told_duty G_told_vise G_number_of_duties G__law_is G__law_is_integers G__law_duties D28 (He.glo_ok X G (cd.fact 28 (f := .glo "_law_vised") rfl))
  have G__law_chosen := ok__law_chosen (P := PySem.W.OpenLaw.prog PySem.Challenge.rw_runwarden_k93_whole_weeks_as_parcels) (w := w) (base := base) (T := (tf.map (He.cT K)).map (·.2)) B G_is_duty G_is_choice G_told_choice G_number_of_choices G_told_quarrel G__law_is G__law_parcels G__law_numbers D29 (He.glo_ok X G (cd.fact 29 (f := .glo "_law_chosen") rfl))
  have G__law_asked := ok__law_asked (P := PySem.W.OpenLaw.prog PySem.Challenge.rw_runwarden_k93_whole_weeks_as_parcels) (w := w) (base := base) (T := (tf.map (He.cT K)).map (·.2)) B G_is_duty G_told_duty G_number_of_duties G__law_is G__law_duties G__law_celled G__law_vised G__law_chosen D30 (He.glo_ok X G (cd.fact 30 (f := .glo "_law_asked") rfl))
  exact ok_law B G__law_cell G__law_draws G__law_asked D31
end Rwd
open PySem PySem.W PySem.Calls PyProof.Rows L2
theorem Rwd.holds_of (hF : ∀ ns : List Int, ns.length ≤ 63 → Dm.F_law [.list (ns.map .int)] = some (.bool true)) : PySem.Challenge.rw_runwarden_k93_whole_weeks_as_parcels.Holds := by
  w_on; o_law
  refine HandSHeadRun.head_any (r := Rwd.R) (q := view Rwd.R.prog [36]) (H := Rwd.hk) (ob := Rwd.ob) (M := 3000) (loose := Rwd.loose) (d := HandSHeadRun.topDef Rwd.R.prog 36) (kwd := []) Rwd.ob_eq
    (by kernel_rfl) (fun s => by kernel_rfl) Rwd.run (by kernel_rfl) (by kernel_rfl) (by kernel_rfl) (by rfl) (by first | assumption | decide +kernel) (by decide +kernel) ⟨rfl, rfl, rfl, rfl, rfl, by decide +kernel⟩ ?hw ?hc
  case hw => w_witness2
  case hc =>
    refine LamX.walk_ofTsE (l := PySem.Challenge.rw_runwarden_k93_whole_weeks_as_parcels) (n := 63) (k := 42) (x := "script") (CX := fun _ => L2.CX0) rfl (by decide) (by kernel_rfl) ⟨rfl, by decide, by decide⟩ ?F (fun _ _ _ _ _ z => z)
    intro w mg fa h Y G hm0
    obtain ⟨K, KX, c⟩ := Y
    have hm : mg ("law" : PySem.Str) = some (.ref fa) := by
      have e : (HandSHeadRun.topDef Rwd.R.prog 36).name = ("law" : PySem.Str) := by kernel_rfl
      rw [← e]
      exact hm0
    exact ⟨K, KX, Rwd.law_ok KX G hm c hF⟩
end

section
set_option Elab.async false
set_option linter.all false
set_option autoImplicit true
/-! DEv: data that stand for Lean values, and what the combinators of DSem answer at them. -/
namespace Dm.M
open PySem PySem.W
/-! ### encoders -/
class Enc {α : Type} [DecidableEq α] (e : α → D) where
  n : Nat
  lay : ∀ a, (e a).canLay0 = true
  dep : ∀ a, (e a).depth ≤ n
  eqv : ∀ a b, PyData.eqv (e a) (e b) = decide (a = b)
def tu {α : Type} (e : α → D) (xs : List α) : D := .tuple (xs.map e)
def li {α : Type} (e : α → D) (xs : List α) : D := .list (xs.map e)
def pr {α β : Type} (e : α → D) (f : β → D) (p : α × β) : D := .tuple [e p.1, f p.2]
theorem beq_dec {α : Type} [BEq α] [LawfulBEq α] [DecidableEq α] (a b : α) : (a == b) = decide (a = b) := by rw [Bool.eq_iff_iff, beq_iff_eq, decide_eq_true_eq]
instance : Enc PyData.int := ⟨0, fun _ => rfl, fun _ => Nat.le_refl _, fun a b => by simp only [PyData.eqv]; exact beq_dec a b⟩
instance : Enc PyData.bool := ⟨0, fun _ => rfl, fun _ => Nat.le_refl _, fun a b => by simp only [PyData.eqv]; exact beq_dec a b⟩
section
variable {α β : Type} [DecidableEq α] [DecidableEq β] {e : α → D} {f : β → D} [Enc e] [Enc f]
theorem lay_map : ∀ xs : List α, PyData.canLayAll0 (xs.map e) = true
  | [] => rfl
  | x :: xs => by rw [List.map_cons, PyData.canLayAll0, Enc.lay x, lay_map xs]; rfl
theorem dep_map : ∀ xs : List α, PyData.depthAll (xs.map e) ≤ Enc.n e
  | [] => Nat.zero_le _
  | x :: xs => by rw [List.map_cons, PyData.depthAll]; exact Nat.max_le.mpr ⟨Enc.dep x, dep_map xs⟩
theorem eqvAll_enc : ∀ xs ys : List α, PyData.eqvAll (xs.map e) (ys.map e) = decide (xs = ys)
  | [], [] => by simp only [List.map_nil, PyData.eqvAll, decide_true]
  | [], _ :: _ => by simp [PyData.eqvAll]
  | _ :: _, [] => by simp [PyData.eqvAll]
  | x :: xs, y :: ys => by
    rw [List.map_cons, List.map_cons, PyData.eqvAll, Enc.eqv x y, eqvAll_enc xs ys, ← Bool.decide_and]
    exact decide_eq_decide.mpr (by rw [List.cons.injEq])
instance : Enc (tu e) := ⟨Enc.n e + 1, fun xs => by simp only [tu, PyData.canLay0]; exact lay_map xs, fun xs => by simp only [tu, PyData.depth]; exact Nat.succ_le_succ (dep_map xs), fun xs ys => by simp only [tu, PyData.eqv]; exact eqvAll_enc xs ys⟩
instance : Enc (li e) := ⟨Enc.n e + 1, fun xs => by simp only [li, PyData.canLay0]; exact lay_map xs, fun xs => by simp only [li, PyData.depth]; exact Nat.succ_le_succ (dep_map xs), fun xs ys => by simp only [li, PyData.eqv]; exact eqvAll_enc xs ys⟩
instance : Enc (pr e f) := ⟨max (Enc.n e) (Enc.n f) + 1, fun p => by simp only [pr, PyData.canLay0, PyData.canLayAll0, Enc.lay, Bool.and_self], fun p => by
    simp only [pr, PyData.depth, PyData.depthAll]
    exact Nat.succ_le_succ (Nat.max_le.mpr ⟨Nat.le_trans (Enc.dep p.1) (Nat.le_max_left _ _), Nat.max_le.mpr ⟨Nat.le_trans (Enc.dep p.2) (Nat.le_max_right _ _), Nat.zero_le _⟩⟩), fun p q => by
    simp only [pr, PyData.eqv, PyData.eqvAll]
    rw [Enc.eqv, Enc.eqv, Bool.and_true, ← Bool.decide_and]
    exact decide_eq_decide.mpr ⟨fun z => Prod.ext z.1 z.2, fun z => by rw [z]; exact ⟨rfl, rfl⟩⟩⟩
theorem plain_enc (a : α) (h : Enc.n e ≤ 64 := by decide) : plain (e a) = true := by
  unfold plain SeqAt.shaped
  rw [Enc.lay a, Bool.true_and]
  exact decide_eq_true (Nat.le_trans (Enc.dep a) h)
/-! ### operators -/
theorem eqD_enc (a b : α) (h : Enc.n e ≤ 64 := by decide) : eqD (e a) (e b) = some (.bool (decide (a = b))) := by
  unfold eqD
  rw [plain_enc a h, plain_enc b h, Enc.eqv]
  rfl
theorem neD_enc (a b : α) (h : Enc.n e ≤ 64 := by decide) : neD (e a) (e b) = some (.bool (!decide (a = b))) := by
  unfold neD
  rw [plain_enc a h, plain_enc b h, Enc.eqv]
  rfl
theorem inL_enc (x : α) (ys : List α) : inL (e x) (ys.map e) = decide (x ∈ ys) := by
  unfold inL
  induction ys with
  | nil => rfl
  | cons y ys ih =>
    rw [List.map_cons, List.any_cons, ih, Enc.eqv, ← Bool.decide_or]
    exact decide_eq_decide.mpr ⟨fun z => z.elim (fun q => q ▸ List.mem_cons_self) (List.mem_cons_of_mem _), fun z => (List.mem_cons.mp z).imp Eq.symm id⟩
theorem inD_tu (x : α) (ys : List α) (h : Enc.n e ≤ 63 := by decide) : inD (e x) (tu e ys) = some (.bool (decide (x ∈ ys))) := by
  have h1 : plain (tu e ys) = true := plain_enc ys (Nat.succ_le_succ h)
  have h2 : plain (e x) = true := plain_enc x (Nat.le_succ_of_le h)
  unfold tu at h1 ⊢
  unfold inD
  simp only [h1, h2, inL_enc, Bool.and_self, if_true]
theorem inD_li (x : α) (ys : List α) (h : Enc.n e ≤ 63 := by decide) : inD (e x) (li e ys) = some (.bool (decide (x ∈ ys))) := by
  have h1 : plain (li e ys) = true := plain_enc ys (Nat.succ_le_succ h)
  have h2 : plain (e x) = true := plain_enc x (Nat.le_succ_of_le h)
  unfold li at h1 ⊢
  unfold inD
  simp only [h1, h2, inL_enc, Bool.and_self, if_true]
theorem ninD_tu (x : α) (ys : List α) (h : Enc.n e ≤ 63 := by decide) : ninD (e x) (tu e ys) = some (.bool (!decide (x ∈ ys))) := by
  have h1 : plain (tu e ys) = true := plain_enc ys (Nat.succ_le_succ h)
  have h2 : plain (e x) = true := plain_enc x (Nat.le_succ_of_le h)
  unfold tu at h1 ⊢
  unfold ninD
  simp only [h1, h2, inL_enc, Bool.and_self, if_true]
theorem ninD_li (x : α) (ys : List α) (h : Enc.n e ≤ 63 := by decide) : ninD (e x) (li e ys) = some (.bool (!decide (x ∈ ys))) := by
  have h1 : plain (li e ys) = true := plain_enc ys (Nat.succ_le_succ h)
  have h2 : plain (e x) = true := plain_enc x (Nat.le_succ_of_le h)
  unfold li at h1 ⊢
  unfold ninD
  simp only [h1, h2, inL_enc, Bool.and_self, if_true]
theorem indexL_enc (ys : List α) (x : α) : indexL (ys.map e) (e x) = ys.findIdx? fun y => decide (y = x) := by
  unfold indexL
  rw [List.findIdx?_map]
  congr 1
  funext y
  exact Enc.eqv y x
theorem tixD_tu (ys : List α) (x : α) (h : Enc.n e ≤ 63 := by decide) : tixD (tu e ys) (e x) = (ys.findIdx? fun y => decide (y = x)).map fun (i : Nat) => PyData.int (i : Int) := by
  have h1 : plain (tu e ys) = true := plain_enc ys (Nat.succ_le_succ h)
  have h2 : plain (e x) = true := plain_enc x (Nat.le_succ_of_le h)
  unfold tu at h1 ⊢
  unfold tixD indexD
  simp only [h1, h2, indexL_enc, Bool.and_self, if_true]
  rfl
end
section
variable {α β : Type} {e : α → D} {f : β → D}
@[simp] theorem lenD_tu (xs : List α) : lenD (tu e xs) = some (.int xs.length) := by simp [tu, lenD]
@[simp] theorem lenD_li (xs : List α) : lenD (li e xs) = some (.int xs.length) := by simp [li, lenD]
theorem atL_map (xs : List α) (i : Int) : atL (xs.map e) i = (atL xs i).map e := by
  unfold atL
  simp only [List.length_map, List.getElem?_map]
  split
  · rfl
  · split <;> rfl
@[simp] theorem ixD_tu (xs : List α) (i : Int) : ixD (tu e xs) (.int i) = (atL xs i).map e := by
  rw [← atL_map]
  rfl
@[simp] theorem ixD_li (xs : List α) (i : Int) : ixD (li e xs) (.int i) = (atL xs i).map e := by
  rw [← atL_map]
  rfl
@[simp] theorem atL_nat (xs : List α) (i : Nat) : atL xs (i : Int) = xs[i]? := by
  unfold atL
  rw [if_pos (Int.natCast_nonneg i)]
  rfl
@[simp] theorem atL_zero (xs : List α) : atL xs 0 = xs[0]? := atL_nat xs 0
@[simp] theorem atL_one (xs : List α) : atL xs 1 = xs[1]? := atL_nat xs 1
@[simp] theorem atL_succ (xs : List α) (i : Nat) : atL xs ((i : Int) + 1) = xs[i + 1]? := atL_nat xs (i + 1)
@[simp] theorem atL_last (xs : List α) : atL xs (-1) = xs.getLast? := by
  unfold atL
  rw [if_neg (by decide)]
  cases xs with
  | nil => rfl
  | cons x xs =>
    rw [if_pos (by simp; omega), List.getLast?_eq_getElem?]
    congr 1
    simp
    omega
theorem addD_tu (xs ys : List α) (h : xs.length + ys.length ≤ 16777216) : addD (tu e xs) (tu e ys) = some (tu e (xs ++ ys)) := by
  simp only [tu, addD, List.length_map, lenOk, List.map_append]
  rw [if_pos (decide_eq_true h)]
theorem addD_li (xs ys : List α) (h : xs.length + ys.length ≤ 16777216) : addD (li e xs) (li e ys) = some (li e (xs ++ ys)) := by
  simp only [li, addD, List.length_map, lenOk, List.map_append]
  rw [if_pos (decide_eq_true h)]
theorem cutL_map (xs : List α) (a b : Option Int) : cutL (xs.map e) a b = (cutL xs a b).map e := by
  unfold cutL
  simp only [List.length_map, List.map_take, List.map_drop]
@[simp] theorem cutD_tu (xs : List α) (a b : Option Int) : cutD (tu e xs) a b = some (tu e (cutL xs a b)) := by
  simp only [tu, cutD, cutL_map]
@[simp] theorem cutD_li (xs : List α) (a b : Option Int) : cutD (li e xs) a b = some (li e (cutL xs a b)) := by
  simp only [li, cutD, cutL_map]
theorem backL_map (xs : List α) (a : Option Int) : backL (xs.map e) a = (backL xs a).map e := by
  unfold backL
  cases a with
  | none => simp only [List.map_reverse]
  | some i =>
    simp only [List.length_map]
    split <;> simp only [List.map_reverse, List.map_take]
@[simp] theorem backD_tu (xs : List α) (a : Option Int) : backD (tu e xs) a = some (tu e (backL xs a)) := by
  simp only [tu, backD, backL_map]
@[simp] theorem backD_li (xs : List α) : backD (li e xs) none = some (li e xs.reverse) := by
  simp only [li, backD, List.map_reverse]
@[simp] theorem truD_tu (xs : List α) : truD (tu e xs) = some (!xs.isEmpty) := by simp [tu, truD]
@[simp] theorem truD_li (xs : List α) : truD (li e xs) = some (!xs.isEmpty) := by simp [li, truD]
theorem zipL_map : ∀ (xs : List α) (ys : List β), zipL (xs.map e) (ys.map f) = (xs.zip ys).map (pr e f)
  | [], _ => rfl
  | _ :: _, [] => rfl
  | x :: xs, y :: ys => by rw [List.map_cons, List.map_cons, zipL, zipL_map xs ys]; rfl
@[simp] theorem zipD_tu (xs : List α) (ys : List β) : zipD (tu e xs) (tu f ys) = some ((xs.zip ys).map (pr e f)) := by
  rw [← zipL_map]
  rfl
@[simp] theorem seqD_tu (xs : List α) : seqD (tu e xs) = some (xs.map e) := rfl
@[simp] theorem seqD_li (xs : List α) : seqD (li e xs) = some (xs.map e) := rfl
@[simp] theorem isNone_tu (xs : List α) : isNone (tu e xs) = false := rfl
end
@[simp] theorem ltD_int (a b : Int) : ltD (.int a) (.int b) = some (.bool (decide (a < b))) := by
  have h : ordOk (.int a) (.int b) = true := rfl
  unfold ltD
  rw [h, if_pos rfl, dataLt_int]
@[simp] theorem gtD_int (a b : Int) : gtD (.int a) (.int b) = some (.bool (decide (a > b))) := by
  have h : ordOk (.int a) (.int b) = true := rfl
  unfold gtD
  rw [h, if_pos rfl, dataLt_int]
theorem not_lt_dec (a b : Int) : (!decide (b < a)) = decide (a ≤ b) := by
  rw [← decide_not]
  exact decide_eq_decide.mpr Int.not_lt
@[simp] theorem leD_int (a b : Int) : leD (.int a) (.int b) = some (.bool (decide (a ≤ b))) := by
  have h : ordOk (.int a) (.int b) = true := rfl
  unfold leD
  rw [h, if_pos rfl, dataLt_int, not_lt_dec]
@[simp] theorem geD_int (a b : Int) : geD (.int a) (.int b) = some (.bool (decide (a ≥ b))) := by
  have h : ordOk (.int a) (.int b) = true := rfl
  unfold geD
  rw [h, if_pos rfl, dataLt_int, not_lt_dec]
@[simp] theorem eqD_int (a b : Int) : eqD (.int a) (.int b) = some (.bool (decide (a = b))) := eqD_enc (e := PyData.int) a b
@[simp] theorem neD_int (a b : Int) : neD (.int a) (.int b) = some (.bool (!decide (a = b))) := neD_enc (e := PyData.int) a b
theorem intsOf_map : ∀ xs : List Int, intsOf (xs.map .int) = some xs
  | [] => rfl
  | x :: xs => by rw [List.map_cons, intsOf, intsOf_map xs]; rfl
@[simp] theorem sumD_ints (xs : List Int) : sumD (li .int xs) = some (.int xs.sum) := by
  unfold sumD li
  simp only [intsOf_map, Option.map_some]
theorem boolsOf_map : ∀ xs : List Bool, boolsOf (xs.map .bool) = some xs
  | [] => rfl
  | x :: xs => by rw [List.map_cons, boolsOf, boolsOf_map xs]; rfl
theorem allLD_bools (xs : List Bool) : allLD (li .bool xs) = some (.bool (xs.all id)) := by
  unfold allLD li
  simp only [boolsOf_map, Option.map_some]
@[simp] theorem rangeL_nat (n : Nat) : rangeL 0 n = (List.range n).map fun i : Nat => .int (i : Int) := by simp [rangeL]
/-! ### comprehensions and loops -/
section
variable {α : Type} {e : α → D} {r : Env} {tg : Tg} {ts : T} {el : E}
theorem compL_map {β : Type} {f : β → D} (p : α → Bool) (g : α → β) : ∀ (xs : List α), (∀ x ∈ xs, ∃ r1, asg tg (e x) r = some r1 ∧ ts r1 = some (p x) ∧ (p x = true → el r1 = some (f (g x)))) → compL r tg ts el (xs.map e) = some (((xs.filter p).map g).map f)
  | [], _ => rfl
  | x :: xs, h => by
    obtain ⟨r1, h1, h2, h3⟩ := h x List.mem_cons_self
    have ih := compL_map (f := f) p g xs fun y hy => h y (List.mem_cons_of_mem _ hy)
    rw [List.map_cons, compL, h1]
    simp only [Option.bind_eq_bind, Option.bind_some, h2]
    cases hp : p x with
    | false => rw [List.filter_cons_of_neg (by simp [hp])]; exact ih
    | true =>
      rw [List.filter_cons_of_pos hp]
      simp only [if_true, h3 hp, ih, Option.bind_some, List.map_cons]
theorem qL_all (p : α → Bool) : ∀ (xs : List α), (∀ x ∈ xs, ∃ r1, asg tg (e x) r = some r1 ∧ ts r1 = some true ∧ el r1 = some (.bool (p x))) → qL true r tg ts el (xs.map e) = some (xs.all p)
  | [], _ => rfl
  | x :: xs, h => by
    obtain ⟨r1, h1, h2, h3⟩ := h x List.mem_cons_self
    have ih := qL_all p xs fun y hy => h y (List.mem_cons_of_mem _ hy)
    rw [List.map_cons, qL, h1]
    simp only [Option.bind_eq_bind, Option.bind_some, h2, h3, if_true, List.all_cons]
    cases hp : p x with
    | false => rw [if_neg (by decide), Bool.false_and]
    | true => rw [if_pos rfl, Bool.true_and]; exact ih
theorem qL_any (p : α → Bool) : ∀ (xs : List α), (∀ x ∈ xs, ∃ r1, asg tg (e x) r = some r1 ∧ ts r1 = some true ∧ el r1 = some (.bool (p x))) → qL false r tg ts el (xs.map e) = some (xs.any p)
  | [], _ => rfl
  | x :: xs, h => by
    obtain ⟨r1, h1, h2, h3⟩ := h x List.mem_cons_self
    have ih := qL_any p xs fun y hy => h y (List.mem_cons_of_mem _ hy)
    rw [List.map_cons, qL, h1]
    simp only [Option.bind_eq_bind, Option.bind_some, h2, h3, if_true, List.any_cons]
    cases hp : p x with
    | true => rw [if_neg (by decide), Bool.true_or]
    | false => rw [if_pos rfl, Bool.false_or]; exact ih
variable {b : S}
/-- a loop that goes through all; I tells what holds behind the first ones -/
theorem forL_all (I : List α → Env → Prop) : ∀ (xs pre : List α) (r : Env), I pre r → (∀ done x rest r, pre ++ xs = done ++ x :: rest → I done r → ∃ r1 r2, asg tg (e x) r = some r1 ∧ (b r1 = some (.nx r2) ∨ b r1 = some (.ct r2)) ∧ I (done ++ [x]) r2) →
    ∃ r', forL tg b (xs.map e) r = some (.nx r') ∧ I (pre ++ xs) r'
  | [], pre, r, h, _ => ⟨r, rfl, by rw [List.append_nil]; exact h⟩
  | x :: xs, pre, r, h, hs => by
    obtain ⟨r1, r2, h1, h2, h3⟩ := hs pre x xs r rfl h
    obtain ⟨r', q1, q2⟩ := forL_all I xs (pre ++ [x]) r2 h3 (fun done y rest s hd hI => hs done y rest s (by rw [← hd, List.append_assoc]; rfl) hI)
    refine ⟨r', ?_, by rw [List.append_assoc] at q2; exact q2⟩
    rw [List.map_cons, forL, h1]
    simp only [Option.bind_eq_bind, Option.bind_some]
    rcases h2 with h2 | h2 <;> simp only [h2, Option.bind_some] <;> exact q1
/-- the first at which p holds is answered by g; else I stays -/
theorem forL_find (I : Env → Prop) (p : α → Bool) (g : α → D) : ∀ (xs : List α) (r : Env), I r → (∀ x ∈ xs, ∀ r, I r → ∃ r1, asg tg (e x) r = some r1 ∧ (p x = true → b r1 = some (.rt (g x))) ∧ (p x = false → ∃ r2, (b r1 = some (.nx r2) ∨ b r1 = some (.ct r2)) ∧ I r2)) →
    (∀ x, xs.find? p = some x → forL tg b (xs.map e) r = some (.rt (g x))) ∧ (xs.find? p = none → ∃ r', forL tg b (xs.map e) r = some (.nx r') ∧ I r')
  | [], r, h, _ => ⟨(fun x z => by cases z), fun _ => ⟨r, rfl, h⟩⟩
  | x :: xs, r, h, hs => by
    obtain ⟨r1, h1, h2, h3⟩ := hs x List.mem_cons_self r h
    rw [List.map_cons]
    cases hp : p x with
    | true =>
      rw [List.find?_cons_of_pos hp]
      refine ⟨fun y z => ?_, (fun z => by cases z)⟩
      cases z
      rw [forL, h1]
      simp only [Option.bind_eq_bind, Option.bind_some, h2 hp]
    | false =>
      rw [List.find?_cons_of_neg (by simp [hp])]
      obtain ⟨r2, q1, q2⟩ := h3 hp
      obtain ⟨k1, k2⟩ := forL_find I p g xs r2 q2 fun y hy => hs y (List.mem_cons_of_mem _ hy)
      have ef : forL tg b (e x :: xs.map e) r = forL tg b (xs.map e) r2 := by
        rw [forL, h1]
        simp only [Option.bind_eq_bind, Option.bind_some]
        rcases q1 with q1 | q1 <;> simp only [q1, Option.bind_some]
      rw [ef]
      exact ⟨k1, k2⟩
end
@[simp] theorem truD_bool (b : Bool) : truD (.bool b) = some b := rfl
@[simp] theorem truD_int (a : Int) : truD (.int a) = some (a != 0) := rfl
@[simp] theorem truD_none : truD .none = some false := rfl
@[simp] theorem addD_int (a b : Int) : addD (.int a) (.int b) = some (.int (a + b)) := rfl
@[simp] theorem subD_int (a b : Int) : subD (.int a) (.int b) = some (.int (a - b)) := rfl
@[simp] theorem negD_int (a : Int) : negD (.int a) = some (.int (-a)) := rfl
@[simp] theorem intD_int (a : Int) : intD (.int a) = some (.int a) := rfl
@[simp] theorem isND_eq (d : D) : isND d = some (.bool (isNone d)) := rfl
@[simp] theorem notND_eq (d : D) : notND d = some (.bool (!isNone d)) := rfl
@[simp] theorem isNone_none : isNone .none = true := rfl
@[simp] theorem isNone_int (a : Int) : isNone (.int a) = false := rfl
@[simp] theorem isNone_dict (kvs : List (D × D)) : isNone (.dict kvs) = false := rfl
/-! ### the combinators, opened (for simp) -/
section
variable (r : Env) (i j p n : Nat) (d : D) (a b c : E) (t u : T) (o q : D → D → Option D) (f : D → Option D) (F : List D → Option D) (es : List E) (it : I) (tg : Tg) (st su : S) (ss : List S)
@[simp] theorem ev_k : kE d r = some d := rfl
@[simp] theorem ev_v : vE i r = (match r[i]? with | some (.va d) => some d | _ => none) := rfl
@[simp] theorem ev_b : bE i r = (match r[i]? with | some (.va d) => some d | some (.ow d) => some d | _ => none) := rfl
@[simp] theorem ev_op : opE o a b r = (a r).bind fun x => (b r).bind fun y => o x y := rfl
@[simp] theorem ev_un : unE f a r = (a r).bind f := rfl
@[simp] theorem ev_tr : trT a r = (a r).bind truD := rfl
@[simp] theorem ev_not : notT t r = (t r).bind fun x => some (!x) := rfl
@[simp] theorem ev_and : andT t u r = (t r).bind fun x => if x = true then u r else some false := rfl
@[simp] theorem ev_or : orT t u r = (t r).bind fun x => if x = true then some true else u r := rfl
@[simp] theorem ev_if : ifE t a b r = (t r).bind fun x => if x = true then a r else b r := rfl
@[simp] theorem ev_notE : notE a r = (a r).bind fun x => (truD x).bind fun y => some (.bool (!y)) := rfl
@[simp] theorem ev_andE : andE a b r = (a r).bind fun x => (truD x).bind fun y => if y = true then b r else some x := rfl
@[simp] theorem ev_orE : orE a b r = (a r).bind fun x => (truD x).bind fun y => if y = true then some x else b r := rfl
@[simp] theorem ev_args0 : argsE [] r = some [] := rfl
@[simp] theorem ev_args1 : argsE (a :: es) r = (a r).bind fun x => (argsE es r).bind fun xs => some (x :: xs) := rfl
@[simp] theorem ev_tup : tupE es r = (argsE es r).bind fun xs => some (.tuple xs) := rfl
@[simp] theorem ev_lst : lstE es r = (argsE es r).bind fun xs => some (.list xs) := rfl
@[simp] theorem ev_call : callE F es r = (argsE es r).bind F := rfl
@[simp] theorem ev_part0 : partE none r = some none := rfl
@[simp] theorem ev_part1 : partE (some a) r = (match a r with | some (.int i) => some (some i) | _ => none) := rfl
@[simp] theorem ev_cut (lo hi : Option E) : cutE c lo hi r = (c r).bind fun x => (partE lo r).bind fun y => (partE hi r).bind fun z => cutD x y z := rfl
@[simp] theorem ev_back (lo : Option E) : backE c lo r = (c r).bind fun x => (partE lo r).bind fun y => backD x y := rfl
@[simp] theorem ev_seq : seqI a r = (a r).bind seqD := rfl
@[simp] theorem ev_zip : zipI a b r = (a r).bind fun x => (b r).bind fun y => zipD x y := rfl
@[simp] theorem ev_rev : revI a r = (a r).bind fun x => (seqD x).bind fun y => some y.reverse := rfl
@[simp] theorem ev_keys : keysI a r = (a r).bind fun x => (match x with | .dict kvs => some (kvs.map (·.1)) | _ => none) := rfl
theorem ev_rg : rgI a b r = (a r).bind fun x => (b r).bind fun y => (match x, y with | .int a, .int b => if big62 a && big62 b then some (rangeL a b) else none | _, _ => none) := rfl
theorem ev_rgd : rgDownI a b r = (a r).bind fun x => (b r).bind fun y => (match x, y with | .int a, .int b => if big62 a && big62 b then some ((List.range (a - b).toNat).map fun i : Nat => .int (a - (i : Int))) else none | _, _ => none) := rfl
@[simp] theorem ev_rg' : rgI' a b r = (rgI a b r).bind fitL := rfl
@[simp] theorem ev_lstI : lstI it r = (it r).bind fun xs => some (.list xs) := rfl
@[simp] theorem ev_tupI : tupI it r = (it r).bind fun xs => some (.tuple xs) := rfl
@[simp] theorem ev_noT : noT r = some true := rfl
@[simp] theorem ev_wipe0 : wipeE r [] = r := rfl
@[simp] theorem ev_wipe1 (vs : List Nat) : wipeE r (i :: vs) = (wipeE r vs).set i .no := rfl
@[simp] theorem ev_comp (own : List Nat) : compI own it tg t a r = (it r).bind fun xs => (compL (wipeE r own) tg t a xs).bind fitL := rfl
@[simp] theorem ev_all (own : List Nat) : allE own it tg t a r = (it r).bind fun xs => (qL true (wipeE r own) tg t a xs).bind fun b => some (.bool b) := rfl
@[simp] theorem ev_any (own : List Nat) : anyE own it tg t a r = (it r).bind fun xs => (qL false (wipeE r own) tg t a xs).bind fun b => some (.bool b) := rfl
@[simp] theorem ev_ch : chE o q a b c r = (a r).bind fun x => (b r).bind fun y => (o x y).bind fun z => (match z with | .bool true => (c r).bind fun w => q y w | .bool false => some (.bool false) | _ => none) := rfl
@[simp] theorem ev_asg1 : asg (.nm i) d r = some (r.set i (.va d)) := by rw [asg]
@[simp] theorem ev_asgT (ts : List Tg) (xs : List D) : asg (.tp ts) (.tuple xs) r = (if ts.length = xs.length then asgs ts xs r else none) := by rw [asg]
@[simp] theorem ev_asgs0 : asgs [] [] r = some r := by rw [asgs]
@[simp] theorem ev_asgs1 (ts : List Tg) (xs : List D) : asgs (tg :: ts) (d :: xs) r = (asg tg d r).bind fun s => asgs ts xs s := by rw [asgs]; rfl
@[simp] theorem ev_pr {α β : Type} (e : α → D) (f : β → D) (x : α × β) : asg (.tp [.nm i, .nm j]) (pr e f x) r = some ((r.set i (.va (e x.1))).set j (.va (f x.2))) := by
  rw [pr]
  simp
@[simp] theorem ev_blk0 : blk [] r = some (.nx r) := rfl
@[simp] theorem ev_blk1 : blk (st :: ss) r = (st r).bind fun x => (match x with | .nx r1 => blk ss r1 | y => some y) := by
  rw [blk]
  rfl
@[simp] theorem ev_sAsg : sAsg tg a r = (a r).bind fun d => (asg tg d r).bind fun s => some (.nx s) := rfl
@[simp] theorem ev_sOwn : sOwn i a r = (a r).bind fun d => some (.nx (r.set i (.ow d))) := rfl
@[simp] theorem ev_sIf : sIf t st su r = (t r).bind fun x => if x = true then st r else su r := rfl
@[simp] theorem ev_sRet : sRet a r = (a r).bind fun d => some (.rt d) := rfl
@[simp] theorem ev_sFor : sFor it tg st r = (it r).bind fun xs => forL tg st xs r := rfl
@[simp] theorem ev_own : own r i = (match r[i]? with | some (.ow d) => some d | _ => none) := rfl
@[simp] theorem ev_sApp : sApp i a r = (a r).bind fun d => (own r i).bind fun x => (match x with | .list xs => if lenOk (xs.length + 1) then some (.nx (r.set i (.ow (.list (xs ++ [d]))))) else none | _ => none) := rfl
@[simp] theorem ev_sExt : sExt i it r = (it r).bind fun ys => (own r i).bind fun x => (match x with | .list xs => if lenOk (xs.length + ys.length) then some (.nx (r.set i (.ow (.list (xs ++ ys))))) else none | _ => none) := rfl
@[simp] theorem ev_sPut : sPut i a b r = (b r).bind fun d => (a r).bind fun k => (own r i).bind fun x => (match x with
  | .list xs => (match k with
    | .int n => (setAt xs n d).bind fun ys => some (.nx (r.set i (.ow (.list ys))))
    | _ => none)
  | .dict kvs => if fitsK kvs k && lenOk (kvs.length + 1) then some (.nx (r.set i (.ow (.dict (putD kvs k d))))) else none
  | _ => none) := rfl
@[simp] theorem ev_sAppMv : sAppMv i j r = (own r j).bind fun d => (own r i).bind fun x => (match x with
  | .list xs => if lenOk (xs.length + 1) && decide (i ≠ j) then some (.nx ((r.set j (.va d)).set i (.ow (.list (xs ++ [d]))))) else none
  | _ => none) := rfl
@[simp] theorem ev_def (as : List D) : dDef p n st as = (if as.length = p then (match st (as.map .va ++ List.replicate (n - p) .no) with | some (.rt d) => some d | some (.nx _) => some .none | _ => none) else none) := rfl
end
/-! ### dicts with int keys -/
def dI (f : Int → D) (ks : List Int) : List (D × D) := ks.map fun k => (.int k, f k)
section
variable (f : Int → D) (ks : List Int) (k : Int)
theorem fitsK_dI : fitsK (dI f ks) (.int k) = true := by
  unfold fitsK dI
  simp [flatK]
theorem eqv_int (a b : Int) : PyData.eqv (.int a) (.int b) = decide (a = b) := Enc.eqv (e := PyData.int) a b
theorem lookD_dI : lookD (dI f ks) (.int k) = if k ∈ ks then some (f k) else none := by
  unfold lookD dI
  induction ks with
  | nil => rfl
  | cons x xs ih =>
    rw [List.map_cons, List.find?_cons, eqv_int]
    by_cases h : x = k
    · subst h
      simp
    · have h' : ¬ k = x := fun z => h z.symm
      simp only [h, decide_false, ih, List.mem_cons, h', false_or]
theorem ixD_dI (h : k ∈ ks) : ixD (.dict (dI f ks)) (.int k) = some (f k) := by
  show (if fitsK (dI f ks) (.int k) then lookD (dI f ks) (.int k) else none) = _
  rw [fitsK_dI, if_pos rfl, lookD_dI, if_pos h]
theorem inD_dI : inD (.int k) (.dict (dI f ks)) = some (.bool (decide (k ∈ ks))) := by
  show (if fitsK (dI f ks) (.int k) then some (PyData.bool (lookD (dI f ks) (.int k)).isSome) else none) = _
  rw [fitsK_dI, if_pos rfl, lookD_dI]
  by_cases h : k ∈ ks <;> simp [h]
theorem any_dI : ((dI f ks).any fun p => PyData.eqv p.1 (.int k)) = decide (k ∈ ks) := by
  unfold dI
  rw [List.any_map]
  have e := inL_enc (e := PyData.int) k ks
  unfold inL at e
  rw [List.any_map] at e
  exact e
theorem putD_new (v : D) (h : k ∉ ks) : putD (dI f ks) (.int k) v = dI f ks ++ [(.int k, v)] := by
  unfold putD
  rw [any_dI, if_neg (by simp [h])]
/-- k's value is v from now on -/
theorem putD_dI (v : D) : putD (dI f ks) (.int k) v = dI (fun j => if j = k then v else f j) (if k ∈ ks then ks else ks ++ [k]) := by
  by_cases h : k ∈ ks
  · rw [if_pos h]
    unfold putD
    rw [any_dI, if_pos (decide_eq_true h)]
    unfold dI
    rw [List.map_map]
    refine List.map_congr_left fun j _ => ?_
    simp only [Function.comp_apply, eqv_int, decide_eq_true_eq]
    split <;> rfl
  · rw [if_neg h, putD_new f ks k v h]
    unfold dI
    rw [List.map_append]
    congr 1
    · refine List.map_congr_left fun j hj => ?_
      have hne : ¬ j = k := fun z => h (by rw [← z]; exact hj)
      simp only [hne, if_false]
    · simp
theorem dI_congr {f g : Int → D} {ks : List Int} (h : ∀ k ∈ ks, f k = g k) : dI f ks = dI g ks := List.map_congr_left fun k hk => by rw [h k hk]
theorem dI_snoc (v : D) (h : f k = v) : dI f ks ++ [(.int k, v)] = dI f (ks ++ [k]) := by
  unfold dI
  rw [List.map_append, List.map_singleton, h]
theorem keys_dI : (dI f ks).map (·.1) = ks.map .int := by
  unfold dI
  rw [List.map_map]
  rfl
theorem len_dI : (dI f ks).length = ks.length := by
  unfold dI
  rw [List.length_map]
end
theorem sort_sorted {xs : List Int} (h : xs.Pairwise (· ≤ ·)) : (xs.mergeSort fun a b => decide (a ≤ b)) = xs :=
  List.mergeSort_of_pairwise (h.imp fun q => decide_eq_true q)
theorem sortKD_dI {f : Int → D} {ks : List Int} (hs : ks.Pairwise (· ≤ ·)) (hl : ks.length < 64) : sortKD (.dict (dI f ks)) = some (li .int ks) := by
  unfold sortKD
  simp only [keys_dI, intsOf_map, decide_eq_true hl, if_true, sort_sorted hs]
  rfl
@[simp] theorem sumD_map {α : Type} (g : α → Int) (xs : List α) : sumD (.list (xs.map (PyData.int ∘ g))) = some (.int (xs.map g).sum) := by
  rw [← sumD_ints, li, List.map_map]
theorem lenOk_small {n : Nat} (h : n ≤ 16777216) : lenOk n = true := decide_eq_true h
theorem fitL_ok {xs : List D} (h : xs.length ≤ 16777216) : fitL xs = some xs := by
  unfold fitL
  rw [lenOk_small h, if_pos rfl]
theorem lenOk_filter {α : Type} {p : α → Bool} {xs : List α} (h : xs.length ≤ 16777216) : lenOk (xs.filter p).length = true := lenOk_small (Nat.le_trans (List.length_filter_le _ _) h)
@[simp] theorem truD_list (xs : List D) : truD (.list xs) = some (!xs.isEmpty) := rfl
@[simp] theorem truD_tuple (xs : List D) : truD (.tuple xs) = some (!xs.isEmpty) := rfl
@[simp] theorem ixD_list (xs : List D) (n : Int) : ixD (.list xs) (.int n) = atL xs n := rfl
@[simp] theorem ixD_tuple (xs : List D) (n : Int) : ixD (.tuple xs) (.int n) = atL xs n := rfl
@[simp] theorem lenD_list (xs : List D) : lenD (.list xs) = some (.int xs.length) := rfl
@[simp] theorem lenD_tuple (xs : List D) : lenD (.tuple xs) = some (.int xs.length) := rfl
@[simp] theorem seqD_list (xs : List D) : seqD (.list xs) = some xs := rfl
@[simp] theorem seqD_tuple (xs : List D) : seqD (.tuple xs) = some xs := rfl
@[simp] theorem disp_nil (r : Env) : dispE [] r = some (.dict []) := rfl
theorem cutL_last {α : Type} (xs : List α) : cutL xs (some (-1)) none = xs.getLast?.toList := by
  have hlo : clampI xs.length (-1) = xs.length - 1 := by
    unfold clampI
    rw [if_pos (by decide)]
    omega
  show (xs.drop (clampI xs.length (-1))).take (xs.length - clampI xs.length (-1)) = _
  rw [hlo]
  cases hx : xs with
  | nil => rfl
  | cons x r =>
    rw [← hx, List.getLast?_eq_getElem?]
    have hl : 0 < xs.length := by rw [hx]; simp
    have e1 : xs.length - (xs.length - 1) = 1 := by omega
    have h2 : xs.length - 1 < xs.length := by omega
    rw [e1, List.drop_eq_getElem_cons h2, List.getElem?_eq_getElem h2]
    rfl
theorem mem_last {α : Type} {x : α} {xs : List α} : x ∈ cutL xs (some (-1)) none ↔ xs.getLast? = some x := by
  rw [cutL_last]
  simp [eq_comm]
section
variable (x : Int) (ys : List Int) (xs : List Int) (yss : List (List Int))
@[simp] theorem inD_ti : inD (.int x) (tu .int ys) = some (.bool (decide (x ∈ ys))) := inD_tu (e := PyData.int) x ys
@[simp] theorem ninD_ti : ninD (.int x) (tu .int ys) = some (.bool (!decide (x ∈ ys))) := ninD_tu (e := PyData.int) x ys
@[simp] theorem inD_lsi : inD (.int x) (li .int ys) = some (.bool (decide (x ∈ ys))) := inD_li (e := PyData.int) x ys
@[simp] theorem ninD_lsi : ninD (.int x) (li .int ys) = some (.bool (!decide (x ∈ ys))) := ninD_li (e := PyData.int) x ys
@[simp] theorem inD_tti : inD (tu .int xs) (tu (tu .int) yss) = some (.bool (decide (xs ∈ yss))) := (inD_tu (e := tu PyData.int) xs yss).trans (by congr)
@[simp] theorem inD_lti : inD (tu .int xs) (li (tu .int) yss) = some (.bool (decide (xs ∈ yss))) := (inD_li (e := tu PyData.int) xs yss).trans (by congr)
@[simp] theorem eqD_ti : eqD (tu .int xs) (tu .int ys) = some (.bool (decide (xs = ys))) := eqD_enc (e := tu PyData.int) xs ys
@[simp] theorem neD_ti : neD (tu .int xs) (tu .int ys) = some (.bool (!decide (xs = ys))) := neD_enc (e := tu PyData.int) xs ys
end
theorem add_one {α : Type} {e : α → D} (xs : List α) (x : α) (h : xs.length ≤ 1000000) : addD (tu e xs) (.tuple [e x]) = some (tu e (xs ++ [x])) := addD_tu xs [x] (by simp; omega)
@[simp] theorem lenOk_zero : lenOk 0 = true := rfl
@[simp] theorem lenOk_one : lenOk 1 = true := rfl
@[simp] theorem filter_tt {α : Type} (xs : List α) : xs.filter (fun _ => true) = xs := List.filter_eq_self.mpr (by simp)
theorem compL_all {α β : Type} {e : α → D} {f : β → D} {r : Env} {tg : Tg} {ts : T} {el : E} (g : α → β) (xs : List α) (h : ∀ x ∈ xs, ∃ r1, asg tg (e x) r = some r1 ∧ ts r1 = some true ∧ el r1 = some (f (g x))) : compL r tg ts el (xs.map e) = some ((xs.map g).map f) := by
  have := compL_map (f := f) (r := r) (tg := tg) (ts := ts) (el := el) (fun _ => true) g xs (fun x hx => by
    obtain ⟨r1, a, b, c⟩ := h x hx
    exact ⟨r1, a, b, fun _ => c⟩)
  rwa [filter_tt] at this
theorem rangeL_nats (a b : Nat) : rangeL (a : Int) (b : Int) = (List.range' a (b - a)).map fun n : Nat => .int (n : Int) := by
  unfold rangeL
  have e : ((b : Int) - (a : Int)).toNat = b - a := by omega
  rw [e, List.range'_eq_map_range, List.map_map]
  refine List.map_congr_left fun i _ => ?_
  simp
theorem forL_cons {tg : Tg} {b : S} (x : D) (xs : List D) (r : Env) : forL tg b (x :: xs) r = (asg tg x r).bind fun r1 => (b r1).bind fun z => (match z with | .nx r2 => forL tg b xs r2 | .ct r2 => forL tg b xs r2 | .bk r2 => some (.nx r2) | .rt d => some (.rt d)) := rfl
@[simp] theorem forL_nil {tg : Tg} {b : S} (r : Env) : forL tg b [] r = some (.nx r) := rfl
theorem big62_nat {n : Nat} (h : n ≤ 1000000) : big62 (n : Int) = true := by
  unfold big62
  exact decide_eq_true (by omega)
theorem big62_of {n : Int} (h : -1000000 ≤ n ∧ n ≤ 1000000) : big62 n = true := by
  unfold big62
  exact decide_eq_true (by omega)
theorem rg_ev {a b : E} {r : Env} {x y : Int} (ha : a r = some (.int x)) (hb : b r = some (.int y)) (h1 : -1000000 ≤ x ∧ x ≤ 1000000) (h2 : -1000000 ≤ y ∧ y ≤ 1000000) : rgI a b r = some (rangeL x y) := by
  have e : rgI a b r = if (big62 x && big62 y) = true then some (rangeL x y) else none := by
    rw [ev_rg, ha, hb]
    rfl
  rw [e, big62_of h1, big62_of h2]
  rfl
theorem rgd_ev {a b : E} {r : Env} {x y : Int} (ha : a r = some (.int x)) (hb : b r = some (.int y)) (h1 : -1000000 ≤ x ∧ x ≤ 1000000) (h2 : -1000000 ≤ y ∧ y ≤ 1000000) : rgDownI a b r = some ((List.range (x - y).toNat).map fun i : Nat => .int (x - (i : Int))) := by
  have e : rgDownI a b r = if (big62 x && big62 y) = true then some ((List.range (x - y).toNat).map fun i : Nat => .int (x - (i : Int))) else none := by
    rw [ev_rgd, ha, hb]
    rfl
  rw [e, big62_of h1, big62_of h2]
  rfl
/-! ### one step at a time -/
def outR : Res → Option D
  | .rt d => some d
  | .nx _ => some .none
  | _ => none
section
variable {r r0 r1 : Env} {p n : Nat} {b st : S} {ss : List S} {as : List D} {z : Res} {d : D} {it : I} {tg : Tg} {xs : List D}
theorem run_def (hl : as.length = p) (h0 : as.map .va ++ List.replicate (n - p) .no = r0) (hb : b r0 = some z) : dDef p n b as = outR z := by
  subst h0
  unfold dDef
  rw [if_pos hl, hb]
  cases z <;> rfl
theorem blk_nx (h : st r = some (.nx r1)) : blk (st :: ss) r = blk ss r1 := by
  rw [ev_blk1, h]
  rfl
theorem blk_rt (h : st r = some (.rt d)) : blk (st :: ss) r = some (.rt d) := by
  rw [ev_blk1, h]
  rfl
theorem for_ev (h : it r = some xs) : sFor it tg b r = forL tg b xs r := by
  rw [ev_sFor, h]
  rfl
end
theorem clampI_nat (n t : Nat) : clampI n (t : Int) = min t n := by
  unfold clampI
  rw [if_neg (by omega)]
  rfl
theorem cutL_from {α : Type} (xs : List α) (t : Nat) : cutL xs (some (t : Int)) none = xs.drop t := by
  show (xs.drop (clampI xs.length t)).take (xs.length - clampI xs.length t) = _
  rw [clampI_nat]
  by_cases h : t ≤ xs.length
  · rw [Nat.min_eq_left h, List.take_of_length_le (by rw [List.length_drop]; omega)]
  · rw [Nat.min_eq_right (by omega), Nat.sub_self, List.take_zero, List.drop_eq_nil_of_le (by omega)]
theorem cutL_to {α : Type} (xs : List α) (t : Nat) : cutL xs none (some (t : Int)) = xs.take t := by
  show (xs.drop 0).take (clampI xs.length t - 0) = _
  rw [clampI_nat, List.drop_zero, Nat.sub_zero]
  by_cases h : t ≤ xs.length
  · rw [Nat.min_eq_left h]
  · rw [Nat.min_eq_right (by omega), List.take_of_length_le (Nat.le_refl _), List.take_of_length_le (by omega)]
theorem cutL_mid {α : Type} (xs : List α) (i j : Nat) (h : j ≤ xs.length) : cutL xs (some (i : Int)) (some (j : Int)) = (xs.drop i).take (j - i) := by
  show (xs.drop (clampI xs.length i)).take (clampI xs.length j - clampI xs.length i) = _
  rw [clampI_nat, clampI_nat, Nat.min_eq_left h]
  by_cases hi : i ≤ xs.length
  · rw [Nat.min_eq_left hi]
  · rw [Nat.min_eq_right (by omega), show j - xs.length = 0 by omega, show j - i = 0 by omega, List.take_zero, List.take_zero]
theorem backL_from {α : Type} (xs : List α) (t : Nat) (h : t < xs.length) : backL xs (some (t : Int)) = (xs.take (t + 1)).reverse := by
  unfold backL
  dsimp only
  rw [if_neg (by omega)]
  have e : min ((t : Int).toNat + 1) xs.length = t + 1 := by omega
  rw [e]
theorem backL_all {α : Type} (xs : List α) : backL xs none = xs.reverse := rfl
theorem comp_ev {α β : Type} {e : α → D} {f : β → D} {r : Env} {own : List Nat} {it : I} {tg : Tg} {ts : T} {el : E} {xs : List α} (p : α → Bool) (g : α → β) (hi : it r = some (xs.map e)) (hl : xs.length ≤ 16777216)
    (h : ∀ x ∈ xs, ∃ r1, asg tg (e x) (wipeE r own) = some r1 ∧ ts r1 = some (p x) ∧ (p x = true → el r1 = some (f (g x)))) : compI own it tg ts el r = some (((xs.filter p).map g).map f) := by
  rw [ev_comp, hi, Option.bind_some, compL_map p g xs h, Option.bind_some, fitL_ok]
  rw [List.length_map, List.length_map]
  exact Nat.le_trans (List.length_filter_le _ _) hl
theorem comp_ev_all {α β : Type} {e : α → D} {f : β → D} {r : Env} {own : List Nat} {it : I} {tg : Tg} {ts : T} {el : E} {xs : List α} (g : α → β) (hi : it r = some (xs.map e)) (hl : xs.length ≤ 16777216)
    (h : ∀ x ∈ xs, ∃ r1, asg tg (e x) (wipeE r own) = some r1 ∧ ts r1 = some true ∧ el r1 = some (f (g x))) : compI own it tg ts el r = some ((xs.map g).map f) := by
  rw [ev_comp, hi, Option.bind_some, compL_all g xs h, Option.bind_some, fitL_ok]
  rw [List.length_map, List.length_map]
  exact hl
theorem lst_ev {α : Type} {f : α → D} {r : Env} {it : I} {ys : List α} (h : it r = some (ys.map f)) : lstI it r = some (li f ys) := by
  rw [ev_lstI, h]
  rfl
theorem tupl_ev {α : Type} {f : α → D} {r : Env} {it : I} {ys : List α} (h : it r = some (ys.map f)) : tupI (seqI (lstI it)) r = some (tu f ys) := by
  rw [ev_tupI, ev_seq, lst_ev h]
  rfl
theorem if_t {t : T} {a b : S} {r : Env} (h : t r = some true) : sIf t a b r = a r := by
  rw [ev_sIf, h]
  rfl
theorem if_f {t : T} {a b : S} {r : Env} (h : t r = some false) : sIf t a b r = b r := by
  rw [ev_sIf, h]
  rfl
/-- an if that is passed -/
theorem blk_if {t : T} {a : S} {ss : List S} {r : Env} (h : t r = some false) : blk (sIf t a (blk []) :: ss) r = blk ss r := blk_nx (if_f h)
theorem blk_ifr {t : T} {e : E} {b : S} {ss : List S} {r : Env} {d : D} (h : t r = some true) (he : e r = some d) : blk (sIf t (blk [sRet e]) b :: ss) r = some (.rt d) := blk_rt ((if_t h).trans (blk_rt (by rw [ev_sRet, he]; rfl)))
theorem ret_ev {e : E} {r : Env} {d : D} {ss : List S} (he : e r = some d) : blk (sRet e :: ss) r = some (.rt d) := blk_rt (by rw [ev_sRet, he]; rfl)
/-- a loop over range(n) -/
theorem forL_range {tg : Tg} {b : S} (I : Nat → Env → Prop) (n : Nat) (r : Env) (h0 : I 0 r) (hs : ∀ k r, k < n → I k r → ∃ r1 r2, asg tg (.int (k : Int)) r = some r1 ∧ (b r1 = some (.nx r2) ∨ b r1 = some (.ct r2)) ∧ I (k + 1) r2) :
    ∃ r', forL tg b ((List.range n).map fun i : Nat => .int (i : Int)) r = some (.nx r') ∧ I n r' := by
  obtain ⟨r', q1, q2⟩ := forL_all (e := fun i : Nat => PyData.int (i : Int)) (tg := tg) (b := b) (fun done r => I done.length r) (List.range n) [] r h0 (by
    intro done x rest r hd hI
    have hd' : List.range n = done ++ x :: rest := hd
    have hlt : done.length < n := by
      have := congrArg List.length hd'
      simp at this
      omega
    have hx : x = done.length := by
      have := congrArg (fun l => l[done.length]?) hd'
      simp at this
      rw [List.getElem?_range hlt] at this
      exact (Option.some.inj this).symm
    subst hx
    obtain ⟨r1, r2, a, c, d⟩ := hs done.length r hlt hI
    exact ⟨r1, r2, a, c, by rw [List.length_append, List.length_singleton]; exact d⟩)
  refine ⟨r', q1, ?_⟩
  have e : ([] ++ List.range n).length = n := by simp
  rw [e] at q2
  exact q2
end Dm.M
end

section
set_option Elab.async false
set_option linter.all false
set_option autoImplicit true
/-! DEv2: order of the data that encoders make; sorted rows. -/
namespace Dm.M
open PySem PySem.W
class EOrd {α : Type} [DecidableEq α] (e : α → D) where
  lt : α → α → Bool
  dlt : ∀ a b, dataLt (e a) (e b) = lt a b
  alk : ∀ a b, alike (e a) (e b) = true
  nn : ∀ a, isNone (e a) = false
  irr : ∀ a, lt a a = false
  trn : ∀ a b c, lt a b = true → lt b c = true → lt a c = true
  tri : ∀ a b, lt a b = true ∨ a = b ∨ lt b a = true
instance : EOrd PyData.int := ⟨fun a b => decide (a < b), dataLt_int, fun _ _ => rfl, fun _ => rfl, fun a => by simp, fun a b c h1 h2 => by simp at h1 h2 ⊢; omega, fun a b => by simp; omega⟩
section
variable {α β : Type} [DecidableEq α] [DecidableEq β] {e : α → D} {f : β → D} [Enc e] [Enc f] [EOrd e] [EOrd f]
def lexB (lt : α → α → Bool) : List α → List α → Bool
  | [], [] => false
  | [], _ :: _ => true
  | _ :: _, [] => false
  | a :: r, b :: s => if a = b then lexB lt r s else lt a b
theorem dlt_cons (a b : D) (xs ys : List D) (h : alike a b = true) : dataLt (.tuple (a :: xs)) (.tuple (b :: ys)) = if PyData.eqv a b = true then dataLt (.tuple xs) (.tuple ys) else dataLt a b := by
  rw [dataLt_tuple, dataLt_tuple]
  split
  · rename_i q
    exact dataLt_all_yes h q
  · rename_i q
    exact dataLt_all_no h (by simpa using q)
theorem dlt_nil_cons (b : D) (ys : List D) : dataLt (.tuple []) (.tuple (b :: ys)) = true := by
  rw [dataLt_tuple, keyToksAll, keyToksAll, lex_atom (by simp)]
  rfl
theorem dlt_cons_nil (b : D) (ys : List D) : dataLt (.tuple (b :: ys)) (.tuple []) = false := by
  rw [dataLt_tuple, keyToksAll, keyToksAll, lex_atom (by simp)]
  rfl
theorem dlt_nil : dataLt (.tuple []) (.tuple []) = false := by rfl
theorem dlt_tu : ∀ xs ys : List α, dataLt (tu e xs) (tu e ys) = lexB (EOrd.lt e) xs ys
  | [], [] => dlt_nil
  | [], b :: ys => dlt_nil_cons _ _
  | a :: xs, [] => dlt_cons_nil _ _
  | a :: xs, b :: ys => by
    show dataLt (.tuple (e a :: xs.map e)) (.tuple (e b :: ys.map e)) = _
    rw [dlt_cons _ _ _ _ (EOrd.alk a b), Enc.eqv, lexB, ← dlt_tu xs ys, EOrd.dlt (e := e) a b]
    simp only [decide_eq_true_eq]
    rfl
theorem alk_all : ∀ xs ys : List α, alikeAll (xs.map e) (ys.map e) = true
  | [], _ => by simp [alikeAll]
  | _ :: _, [] => by simp [alikeAll]
  | a :: xs, b :: ys => by
    rw [List.map_cons, List.map_cons, alikeAll, EOrd.alk, alk_all xs ys]
    rfl
theorem lexB_irr : ∀ xs : List α, lexB (EOrd.lt e) xs xs = false
  | [] => rfl
  | a :: xs => by rw [lexB, if_pos rfl, lexB_irr xs]
theorem lexB_tri : ∀ xs ys : List α, lexB (EOrd.lt e) xs ys = true ∨ xs = ys ∨ lexB (EOrd.lt e) ys xs = true
  | [], [] => .inr (.inl rfl)
  | [], _ :: _ => .inl rfl
  | _ :: _, [] => .inr (.inr rfl)
  | a :: xs, b :: ys => by
    rw [lexB, lexB]
    by_cases h : a = b
    · subst h
      rw [if_pos rfl, if_pos rfl]
      exact (lexB_tri xs ys).imp id (Or.imp (fun z => by rw [z]) id)
    · rw [if_neg h, if_neg (Ne.symm h)]
      rcases EOrd.tri (e := e) a b with q | q | q
      · exact .inl q
      · exact absurd q h
      · exact .inr (.inr q)
theorem lexB_trn : ∀ xs ys zs : List α, lexB (EOrd.lt e) xs ys = true → lexB (EOrd.lt e) ys zs = true → lexB (EOrd.lt e) xs zs = true
  | [], _, [], h1, h2 => by
    rename_i ys
    cases ys <;> simp [lexB] at h1 h2
  | [], _, _ :: _, _, _ => rfl
  | _ :: _, [], _, h1, _ => by simp [lexB] at h1
  | _ :: _, _ :: _, [], _, h2 => by simp [lexB] at h2
  | a :: xs, b :: ys, c :: zs, h1, h2 => by
    rw [lexB] at h1 h2 ⊢
    by_cases hab : a = b
    · subst hab
      rw [if_pos rfl] at h1
      by_cases hac : a = c
      · rw [if_pos hac] at h2 ⊢
        exact lexB_trn xs ys zs h1 h2
      · rw [if_neg hac] at h2 ⊢
        exact h2
    · rw [if_neg hab] at h1
      by_cases hbc : b = c
      · subst hbc
        rw [if_neg hab]
        exact h1
      · rw [if_neg hbc] at h2
        have h3 := EOrd.trn a b c h1 h2
        by_cases hac : a = c
        · subst hac
          rw [EOrd.irr] at h3
          cases h3
        · rw [if_neg hac]
          exact h3
instance : EOrd (tu e) := ⟨lexB (EOrd.lt e), dlt_tu, fun xs ys => by simp only [tu, alike]; exact alk_all xs ys, fun _ => rfl, lexB_irr, lexB_trn, lexB_tri⟩
def prLt (p q : α × β) : Bool := if p.1 = q.1 then EOrd.lt f p.2 q.2 else EOrd.lt e p.1 q.1
theorem dlt_pr (p q : α × β) : dataLt (pr e f p) (pr e f q) = prLt (e := e) (f := f) p q := by
  show dataLt (.tuple [e p.1, f p.2]) (.tuple [e q.1, f q.2]) = _
  rw [dlt_cons _ _ _ _ (EOrd.alk _ _), dlt_cons _ _ _ _ (EOrd.alk _ _), dlt_nil, EOrd.dlt, EOrd.dlt, Enc.eqv, Enc.eqv]
  unfold prLt
  by_cases h : p.1 = q.1
  · rw [if_pos (decide_eq_true h), if_pos h]
    by_cases h2 : p.2 = q.2
    · rw [if_pos (decide_eq_true h2), h2, EOrd.irr]
    · rw [if_neg (by simp [h2])]
  · rw [if_neg (by simp [h]), if_neg h]
instance : EOrd (pr e f) := ⟨prLt (e := e) (f := f), dlt_pr, fun p q => by simp only [pr, alike, alikeAll, EOrd.alk, Bool.and_self], fun _ => rfl, fun p => by
    unfold prLt
    rw [if_pos rfl, EOrd.irr], fun p q r h1 h2 => by
    unfold prLt at h1 h2 ⊢
    by_cases a : p.1 = q.1
    · rw [if_pos a] at h1
      rw [a]
      by_cases b : q.1 = r.1
      · rw [if_pos b] at h2 ⊢
        exact EOrd.trn _ _ _ h1 h2
      · rw [if_neg b] at h2 ⊢
        exact h2
    · rw [if_neg a] at h1
      by_cases b : q.1 = r.1
      · rw [← b, if_neg a]
        exact h1
      · rw [if_neg b] at h2
        have h3 := EOrd.trn _ _ _ h1 h2
        by_cases c : p.1 = r.1
        · rw [c, EOrd.irr] at h3
          cases h3
        · rw [if_neg c]
          exact h3, fun p q => by
    unfold prLt
    by_cases a : p.1 = q.1
    · rw [if_pos a, if_pos a.symm]
      exact (EOrd.tri (e := f) p.2 q.2).imp id (Or.imp (fun z => Prod.ext a z) id)
    · rw [if_neg a, if_neg (Ne.symm a)]
      exact (EOrd.tri (e := e) p.1 q.1).imp id (Or.imp (fun z => absurd z a) id)⟩
/-! ### sorted -/
variable (e) in
def leE (a b : α) : Bool := !EOrd.lt e b a
variable (e) in
def srt (xs : List α) : List α := xs.mergeSort (leE e)
theorem leE_trans (a b c : α) (h1 : leE e a b = true) (h2 : leE e b c = true) : leE e a c = true := by
  unfold leE at *
  simp only [Bool.not_eq_true'] at *
  cases h : EOrd.lt e c a with
  | false => rfl
  | true =>
    rcases EOrd.tri (e := e) a b with q | q | q
    · rw [EOrd.trn _ _ _ h q] at h2
      cases h2
    · subst q
      rw [h] at h2
      cases h2
    · rw [q] at h1
      cases h1
theorem leE_total (a b : α) : (leE e a b || leE e b a) = true := by
  unfold leE
  cases h : EOrd.lt e b a with
  | false => rfl
  | true =>
    cases h2 : EOrd.lt e a b with
    | false => rfl
    | true =>
      have := EOrd.trn _ _ _ h h2
      rw [EOrd.irr] at this
      cases this
theorem leE_anti (a b : α) (h1 : leE e a b = true) (h2 : leE e b a = true) : a = b := by
  unfold leE at *
  rcases EOrd.tri (e := e) a b with q | q | q
  · rw [q] at h2
    cases h2
  · exact q
  · rw [q] at h1
    cases h1
theorem srt_perm (xs : List α) : (srt e xs).Perm xs := List.mergeSort_perm _ _
theorem mem_srt {xs : List α} {a : α} : a ∈ srt e xs ↔ a ∈ xs := (srt_perm xs).mem_iff
theorem srt_len (xs : List α) : (srt e xs).length = xs.length := (srt_perm xs).length_eq
theorem srt_pair (xs : List α) : (srt e xs).Pairwise fun a b => leE e a b = true := List.pairwise_mergeSort (le := leE e) leE_trans leE_total xs
/-- the sorted row is the one that is in order and has the same items -/
theorem srt_eq {xs ys : List α} (hp : ys.Perm xs) (hy : ys.Pairwise fun a b => leE e a b = true) : srt e xs = ys :=
  List.Perm.eq_of_pairwise (fun a b _ _ h1 h2 => leE_anti a b h1 h2) (srt_pair xs) hy ((srt_perm xs).trans hp.symm)
/-- strictly ascending rows with the same items are the same -/
theorem asc_uni {xs ys : List α} (hx : xs.Pairwise fun a b => EOrd.lt e a b = true) (hy : ys.Pairwise fun a b => EOrd.lt e a b = true) (h : ∀ a, a ∈ xs ↔ a ∈ ys) : xs = ys := by
  have nd : ∀ {zs : List α}, (zs.Pairwise fun a b => EOrd.lt e a b = true) → zs.Nodup := fun hz => hz.imp fun {a b} q z => by
    subst z
    rw [EOrd.irr] at q
    cases q
  have le : ∀ {zs : List α}, (zs.Pairwise fun a b => EOrd.lt e a b = true) → zs.Pairwise fun a b => leE e a b = true := fun hz => hz.imp fun {a b} q => by
    unfold leE
    cases h2 : EOrd.lt e b a with
    | false => rfl
    | true =>
      have := EOrd.trn _ _ _ q h2
      rw [EOrd.irr] at this
      cases this
  exact List.Perm.eq_of_pairwise (fun a b _ _ h1 h2 => leE_anti a b h1 h2) (le hx) (le hy) ((List.perm_ext_iff_of_nodup (nd hx) (nd hy)).mpr h)
theorem srt_asc {xs : List α} (h : xs.Nodup) : (srt e xs).Pairwise fun a b => EOrd.lt e a b = true := by
  refine ((srt_pair xs).and ((srt_perm xs).nodup_iff.mpr h)).imp fun {a b} ⟨q1, q2⟩ => ?_
  rcases EOrd.tri (e := e) a b with q | q | q
  · exact q
  · exact absurd q q2
  · unfold leE at q1
    rw [q] at q1
    cases q1
theorem srt_uni {xs ys : List α} (hn : xs.Nodup) (hy : ys.Pairwise fun a b => EOrd.lt e a b = true) (h : ∀ a, a ∈ xs ↔ a ∈ ys) : srt e xs = ys := asc_uni (srt_asc hn) hy fun a => by rw [mem_srt, h]
theorem sortL_enc (xs : List α) (hp : Enc.n e ≤ 64) (hl : xs.length ≤ 16777216) (hh : headT (xs.map e) = true) : sortL (xs.map e) = some ((srt e xs).map e) := by
  have h1 : sortOk (xs.map e) = true := by
    unfold sortOk
    simp only [List.all_map, List.all_eq_true]
    intro a _
    simp only [Function.comp_apply, Bool.and_eq_true, List.all_eq_true]
    refine ⟨fun b _ => EOrd.alk a b, ?_, plain_enc a hp⟩
    rw [EOrd.nn]
    rfl
  have h3 : lenOk (xs.map e).length = true := lenOk_small (by rw [List.length_map]; exact hl)
  have q : (xs.map e).mergeSort leB = (srt e xs).map e := by
    refine (List.map_mergeSort (fun a _ b _ => ?_)).symm
    show leE e a b = !dataLt (e b) (e a)
    rw [EOrd.dlt]
    rfl
  unfold sortL
  rw [h1, hh, h3, q]
  rfl
theorem sortLD_enc (xs : List α) (hp : Enc.n e ≤ 64) (hl : xs.length ≤ 16777216) (hh : headT (xs.map e) = true) : sortLD (li e xs) = some (li e (srt e xs)) := by
  show (sortL (xs.map e)).map PyData.list = _
  rw [sortL_enc xs hp hl hh]
  rfl
theorem headT_of (xs : List α) (h : ∀ a ∈ xs, emptyT (e a) = false) : headT (xs.map e) = true := by
  unfold headT
  rw [Bool.or_eq_true]
  left
  simp only [List.all_map, List.all_eq_true]
  intro a ha
  simp [h a ha]
theorem headT_nil (xs : List (List α)) : headT (([] :: xs).map (tu e)) = true := by
  unfold headT
  rw [Bool.or_eq_true]
  right
  rfl
end
end Dm.M
end

section
set_option Elab.async false
set_option linter.all false
set_option autoImplicit true
/-! DSets: all sets of the first numbers, in order. -/
namespace Dm.M
open PySem PySem.W
abbrev ltI : List Int → List Int → Bool := lexB (EOrd.lt PyData.int)
theorem ltI_def : EOrd.lt (tu PyData.int) = ltI := rfl
def rgi (n : Nat) : List Int := (List.range n).map fun i : Nat => (i : Int)
theorem rgi_succ (n : Nat) : rgi (n + 1) = rgi n ++ [(n : Int)] := by simp [rgi, List.range_succ]
theorem mem_rgi {n : Nat} {a : Int} : a ∈ rgi n ↔ 0 ≤ a ∧ a < n := by
  unfold rgi
  rw [List.mem_map]
  constructor
  · rintro ⟨i, h, rfl⟩
    have := List.mem_range.mp h
    omega
  · rintro ⟨h1, h2⟩
    exact ⟨a.toNat, by rw [List.mem_range]; omega, by omega⟩
theorem rgi_asc (n : Nat) : (rgi n).Pairwise (· < ·) := by
  unfold rgi
  rw [List.pairwise_map]
  exact List.pairwise_lt_range.imp fun h => by omega
def setsU : Nat → List (List Int)
  | 0 => [[]]
  | n + 1 => setsU n ++ (setsU n).map (· ++ [(n : Int)])
def lexS : List Int → List (List Int)
  | [] => [[]]
  | x :: r => [] :: ((lexS r).map (x :: ·) ++ (lexS r).tail)
theorem lexS_head : ∀ xs : List Int, ∃ t, lexS xs = [] :: t
  | [] => ⟨[], rfl⟩
  | _ :: _ => ⟨_, rfl⟩
theorem sub_snoc {t l : List Int} {n : Int} : t.Sublist (l ++ [n]) ↔ t.Sublist l ∨ ∃ s, s.Sublist l ∧ t = s ++ [n] := by
  rw [List.sublist_append_iff]
  constructor
  · rintro ⟨a, b, rfl, ha, hb⟩
    rcases (show b = [] ∨ b = [n] by cases hb with | cons _ q => cases q; exact .inl rfl | cons_cons _ q => cases q; exact .inr rfl) with rfl | rfl
    · left
      simpa using ha
    · exact .inr ⟨a, ha, rfl⟩
  · rintro (h | ⟨s, hs, rfl⟩)
    · exact ⟨t, [], by simp, h, List.nil_sublist _⟩
    · exact ⟨s, [n], rfl, hs, List.Sublist.refl _⟩
theorem mem_setsU : ∀ (n : Nat) (t : List Int), t ∈ setsU n ↔ t.Sublist (rgi n)
  | 0, t => by simp [setsU, rgi]
  | n + 1, t => by
    rw [setsU, rgi_succ, sub_snoc, List.mem_append, List.mem_map, mem_setsU n]
    constructor
    · rintro (h | ⟨s, hs, rfl⟩)
      · exact .inl h
      · exact .inr ⟨s, (mem_setsU n s).mp hs, rfl⟩
    · rintro (h | ⟨s, hs, rfl⟩)
      · exact .inl h
      · exact .inr ⟨s, (mem_setsU n s).mpr hs, rfl⟩
theorem nodup_map_inj {α β : Type} {f : α → β} (hf : ∀ a b, f a = f b → a = b) {xs : List α} (h : xs.Nodup) : (xs.map f).Nodup := by
  unfold List.Nodup at *
  rw [List.pairwise_map]
  exact h.imp fun q z => q (hf _ _ z)
theorem setsU_nodup : ∀ n, (setsU n).Nodup
  | 0 => by simp [setsU]
  | n + 1 => by
    rw [setsU, List.nodup_append]
    refine ⟨setsU_nodup n, nodup_map_inj (fun a b h => List.append_cancel_right h) (setsU_nodup n), ?_⟩
    rintro a ha b hb rfl
    obtain ⟨s, _, rfl⟩ := List.mem_map.mp hb
    have h1 := (mem_setsU n _).mp ha
    have h2 : (n : Int) ∈ rgi n := h1.subset (by simp)
    have := mem_rgi.mp h2
    omega
theorem mem_lexS : ∀ (xs t : List Int), t ∈ lexS xs ↔ t.Sublist xs
  | [], t => by simp [lexS]
  | x :: r, t => by
    obtain ⟨u, hu⟩ := lexS_head r
    have ih := mem_lexS r
    rw [lexS, hu, List.tail_cons, List.mem_cons, List.mem_append, List.mem_map]
    constructor
    · rintro (rfl | ⟨s, hs, rfl⟩ | h)
      · exact List.nil_sublist _
      · exact ((ih s).mp (by rw [hu]; exact hs)).cons_cons x
      · exact ((ih t).mp (by rw [hu]; exact List.mem_cons_of_mem _ h)).cons x
    · intro h
      cases h with
      | cons _ h =>
        have := (ih t).mpr h
        rw [hu] at this
        rcases List.mem_cons.mp this with q | q
        · exact .inl q
        · exact .inr (.inr q)
      | cons_cons _ h =>
        rename_i s
        exact .inr (.inl ⟨s, by rw [← hu]; exact (ih s).mpr h, rfl⟩)
theorem lexS_asc : ∀ xs : List Int, xs.Pairwise (· < ·) → (lexS xs).Pairwise fun a b => ltI a b = true
  | [], _ => by simp [lexS]
  | x :: r, h => by
    obtain ⟨h1, h2⟩ := List.pairwise_cons.mp h
    have ih := lexS_asc r h2
    obtain ⟨u, hu⟩ := lexS_head r
    have hm := mem_lexS r
    rw [lexS]
    rw [hu] at ih hm ⊢
    obtain ⟨i1, i2⟩ := List.pairwise_cons.mp ih
    rw [List.tail_cons]
    have une : ∀ b ∈ u, ∃ y s, b = y :: s := fun b hb => by
      have := i1 b hb
      cases b with
      | nil => cases this
      | cons y s => exact ⟨y, s, rfl⟩
    refine List.pairwise_cons.mpr ⟨fun b hb => ?_, ?_⟩
    · rcases List.mem_append.mp hb with q | q
      · obtain ⟨s, _, rfl⟩ := List.mem_map.mp q
        rfl
      · exact i1 b q
    · rw [List.pairwise_append]
      refine ⟨?_, i2, ?_⟩
      · rw [List.pairwise_map]
        exact ih.imp fun q => by
          show lexB _ (x :: _) (x :: _) = true
          rw [lexB, if_pos rfl]
          exact q
      · intro a ha b hb
        obtain ⟨s, _, rfl⟩ := List.mem_map.mp ha
        obtain ⟨y, t, rfl⟩ := une b hb
        have h3 : (y :: t).Sublist r := (hm _).mp (List.mem_cons_of_mem _ hb)
        have h4 := h1 y (h3.subset (by simp))
        show lexB _ (x :: s) (y :: t) = true
        rw [lexB, if_neg (by omega)]
        exact decide_eq_true h4
theorem srt_setsU (n : Nat) : srt (tu PyData.int) (setsU n) = lexS (rgi n) :=
  srt_uni (e := tu PyData.int) (setsU_nodup n) (lexS_asc _ (rgi_asc n)) fun a => by rw [mem_setsU, mem_lexS]
theorem setsU_len : ∀ n, (setsU n).length = 2 ^ n
  | 0 => rfl
  | n + 1 => by
    rw [setsU, List.length_append, List.length_map, setsU_len n, Nat.pow_succ]
    omega
theorem setsU_head : ∀ n, ∃ t, setsU n = [] :: t
  | 0 => ⟨[], rfl⟩
  | n + 1 => by
    obtain ⟨t, h⟩ := setsU_head n
    refine ⟨t ++ (setsU n).map (· ++ [(n : Int)]), ?_⟩
    rw [setsU]
    conv => lhs; rw [h]
    rw [h]
    rfl
theorem sort_setsU (n : Nat) (hn : n ≤ 20) : sortLD (li (tu .int) (setsU n)) = some (li (tu .int) (lexS (rgi n))) := by
  rw [sortLD_enc (e := tu PyData.int) (setsU n) (by decide) ?_ ?_, srt_setsU]
  · rw [setsU_len]
    have : 2 ^ n ≤ 2 ^ 20 := Nat.pow_le_pow_right (by decide) hn
    omega
  · obtain ⟨t, h⟩ := setsU_head n
    rw [h]
    exact headT_nil t
end Dm.M
end

section
set_option Elab.async false
set_option linter.all false
set_option autoImplicit true
set_option maxRecDepth 100000
/-! DLaw: the helpers that every law has: cells, draws, equal things. -/
namespace Dm.M
open PySem PySem.W
theorem fdivD_ok (a b : Int) (h : b ≠ 0 ∧ b.natAbs < 1073741824) : fdivD (.int a) (.int b) = some (.int (a.fdiv b)) := by
  show (if decide (b ≠ 0 ∧ b.natAbs < 1073741824) = true then some (PyData.int (a.fdiv b)) else none) = _
  rw [if_pos (decide_eq_true h)]
theorem modD_ok (a b : Int) (h : b ≠ 0) : modD (.int a) (.int b) = some (.int (a.fmod b)) := by
  show (if decide (b ≠ 0) = true then some (PyData.int (a.fmod b)) else none) = _
  rw [if_pos (decide_eq_true h)]
theorem fmod_in (a : Int) {n : Nat} (h : 0 < n) : 0 ≤ a.fmod n ∧ a.fmod n < n := ⟨Int.fmod_nonneg_of_pos _ (by omega), Int.fmod_lt_of_pos _ (by omega)⟩
theorem fmod_inI (a : Int) {n : Int} (h : 0 < n) : 0 ≤ a.fmod n ∧ a.fmod n < n := ⟨Int.fmod_nonneg_of_pos _ h, Int.fmod_lt_of_pos _ h⟩
theorem mulI_ok (a b : Int) (h : -(2 ^ 64) < b ∧ b < 2 ^ 64) : mulI (.int a) (.int b) = some (.int (a * b)) := by
  show (if (small64 a || small64 b) = true then some (PyData.int (a * b)) else none) = _
  have : small64 b = true := decide_eq_true h
  rw [this, Bool.or_true, if_pos rfl]
theorem mulI_ok' (a b : Int) (h : -(2 ^ 64) < a ∧ a < 2 ^ 64) : mulI (.int a) (.int b) = some (.int (a * b)) := by
  show (if (small64 a || small64 b) = true then some (PyData.int (a * b)) else none) = _
  have : small64 a = true := decide_eq_true h
  rw [this, Bool.true_or, if_pos rfl]
theorem op_ev {o : D → D → Option D} {a b : E} {r : Dm.Env} {x y z : D} (ha : a r = some x) (hb : b r = some y) (h : o x y = some z) : opE o a b r = some z := by
  rw [ev_op, ha, hb]
  exact h
theorem op_mod {e : E} {r : Dm.Env} {x n : Int} (he : e r = some (.int x)) (h : n ≠ 0) : opE modD (unE intD e) (kE (.int n)) r = some (.int (x.fmod n)) := by rw [ev_op, ev_un, he, ev_k, Option.bind_some, intD_int, Option.bind_some, Option.bind_some, modD_ok x n h]
theorem atL_pos {α : Type} (xs : List α) {i : Int} (h : 0 ≤ i) : atL xs i = xs[i.toNat]? := by
  unfold atL
  rw [if_pos h]
theorem atL_getD {α : Type} (xs : List α) {i : Int} (d : α) (h : 0 ≤ i) (h1 : i < xs.length) : atL xs i = some (xs.getD i.toNat d) := by
  have h2 : i.toNat < xs.length := by omega
  rw [atL_pos xs h, List.getD, List.getElem?_eq_getElem h2]
  rfl
theorem atL_some {α : Type} {xs : List α} {i : Int} (h : 0 ≤ i) (h1 : i < xs.length) : ∃ x, atL xs i = some x ∧ x ∈ xs := by
  have h2 : i.toNat < xs.length := by omega
  exact ⟨xs[i.toNat], by rw [atL_pos xs h, List.getElem?_eq_getElem h2], List.getElem_mem h2⟩
def Bc_cell : S :=
  (blk [(sIf (trT (opE ltD (vE 1) (unE lenD (vE 0)))) (blk [(sRet (opE ixD (vE 0) (vE 1)))]) (blk [])), (sRet (opE addD (opE mulI (kE (.int 5)) (vE 1)) (kE (.int 3))))])
theorem cell_ok (ns : List Int) (k : Nat) : ∃ c, dDef 2 2 Bc_cell [li .int ns, .int k] = some (.int c) := by
  by_cases h : k < ns.length
  · obtain ⟨c, hc⟩ : ∃ c, ns[k]? = some c := ⟨_, List.getElem?_eq_getElem h⟩
    refine ⟨c, run_def (r0 := [.va (li .int ns), .va (.int k)]) (z := .rt (.int c)) rfl rfl (blk_ifr ?_ ?_)⟩
    · simp [h]
    · simp [hc]
  · refine ⟨5 * (k : Int) + 3, run_def (r0 := [.va (li .int ns), .va (.int k)]) (z := .rt (.int (5 * (k : Int) + 3))) rfl rfl ((blk_if ?_).trans (ret_ev ?_))⟩
    · simp
      omega
    · simp [mulI_ok' 5 (k : Int) (by decide)]
def B_draw1 : S := (blk [(sIf (andT (trT (vE 3)) (trT (opE gtD (vE 2) (kE (.int 0))))) (blk [(sApp 5 (opE modD (unE intD (vE 2)) (kE (.int 5040)))), (sAsg (.nm 2) (opE fdivD (vE 2) (kE (.int 5040))))]) (blk [(sAsg (.nm 7) (opE modD (unE intD (opE addD (opE addD (opE mulI (vE 4) (kE (.int 48271))) (opE mulI (opE addD (vE 6) (kE (.int 1))) (kE (.int 69621)))) (kE (.int 11)))) (kE (.int 2147483647)))), (sAsg (.nm 7) (opE modD (unE intD (opE addD (opE mulI (vE 7) (vE 7)) (opE mulI (kE (.int 40692)) (opE addD (vE 6) (kE (.int 3)))))) (kE (.int 2147483399)))), (sApp 5 (opE modD (unE intD (opE fdivD (vE 7) (kE (.int 64)))) (kE (.int 5040))))]))])
def Bc_draws : S :=
  (blk [(sAsg (.nm 2) (unE absD (unE intD (vE 0)))), (sAsg (.nm 3) (opE geD (vE 2) (opE powD (kE (.int 10)) (kE (.int 18))))), (sAsg (.nm 4) (vE 2)), (sOwn 5 (lstE [])), (sFor (rgI (kE (.int 0)) (vE 1)) (.nm 6) B_draw1), (sRet (bE 5))])
theorem draws_ok (c : Int) (n : Nat) (hn : n ≤ 1000) : ∃ ds : List Int, ds.length = n ∧ (∀ d ∈ ds, 0 ≤ d ∧ d < 5040) ∧ dDef 2 8 Bc_draws [.int c, .int n] = some (li .int ds) := by
  obtain ⟨a, ha⟩ : ∃ a : Int, absD (.int c) = some (.int a) := ⟨_, rfl⟩
  obtain ⟨b, hb⟩ : ∃ b : Bool, opE geD (kE (.int a)) (opE powD (kE (.int 10)) (kE (.int 18))) [] = some (.bool b) := ⟨decide (a ≥ 10 ^ 18), by
    have : powD (.int 10) (.int 18) = some (.int (10 ^ 18)) := rfl
    simp [this]⟩
  have hb' : (powD (.int 10) (.int 18)).bind (geD (.int a)) = some (.bool b) := hb
  have hr : rgI (kE (.int 0)) (vE 1) [.va (.int c), .va (.int n), .va (.int a), .va (.bool b), .va (.int a), .ow (li .int []), .no, .no] = some ((List.range n).map fun i : Nat => .int (i : Int)) := by
    rw [rg_ev (x := 0) (y := (n : Int)) rfl rfl (by omega) (by omega), rangeL_nat]
  obtain ⟨r', q, ds, h1, h2, rest, s6, s7, rfl⟩ := forL_range (tg := .nm 6) (b := B_draw1) (fun k r => ∃ ds : List Int, ds.length = k ∧ (∀ d ∈ ds, 0 ≤ d ∧ d < 5040) ∧ ∃ (rest : Int) (s6 s7 : Slot), r = [.va (.int c), .va (.int n), .va (.int rest), .va (.bool b), .va (.int a), .ow (li .int ds), s6, s7]) n _ ⟨[], rfl, by simp, a, .no, .no, rfl⟩ (by
    rintro k r hk ⟨ds, h1, h2, rest, s6, s7, rfl⟩
    have hok : lenOk (ds.length + 1) = true := lenOk_small (by omega)
    have app : ∀ (e : E) (d : Int) (s2 s7 : Slot), e [.va (.int c), .va (.int n), s2, .va (.bool b), .va (.int a), .ow (li .int ds), .va (.int k), s7] = some (.int d) → sApp 5 e [.va (.int c), .va (.int n), s2, .va (.bool b), .va (.int a), .ow (li .int ds), .va (.int k), s7] = some (.nx [.va (.int c), .va (.int n), s2, .va (.bool b), .va (.int a), .ow (li .int (ds ++ [d])), .va (.int k), s7]) := by
      intro e d s2 s7 he
      rw [ev_sApp, he]
      simp [li, hok]
    have more : ∀ d : Int, (ds ++ [d.fmod 5040]).length = k + 1 ∧ ∀ x ∈ ds ++ [d.fmod 5040], 0 ≤ x ∧ x < 5040 := fun d => ⟨by simp [h1], fun x hx => by
      rcases List.mem_append.mp hx with z | z
      · exact h2 x z
      · have := fmod_inI d (n := 5040) (by decide)
        rw [List.mem_singleton.mp z]
        exact this⟩
    by_cases hc : b = true ∧ rest > 0
    · refine ⟨_, [.va (.int c), .va (.int n), .va (.int (rest.fdiv 5040)), .va (.bool b), .va (.int a), .ow (li .int (ds ++ [rest.fmod 5040])), .va (.int k), s7], rfl, .inl ?_, ds ++ [rest.fmod 5040], (more _).1, (more _).2, _, _, _, rfl⟩
      refine (blk_nx ?_).trans rfl
      refine (if_t ?_).trans ((blk_nx (app _ (rest.fmod 5040) _ _ ?_)).trans ((blk_nx ?_).trans rfl))
      · simp [hc.1, hc.2]
      · simp [modD_ok rest 5040 (by decide)]
      · simp [fdivD_ok rest 5040 (by decide)]
    · obtain ⟨u, hm1⟩ : ∃ u, mulI (.int a) (.int 48271) = some (.int u) := ⟨_, mulI_ok a 48271 (by decide)⟩
      obtain ⟨v, hm2⟩ : ∃ v, mulI (.int ((k : Int) + 1)) (.int 69621) = some (.int v) := ⟨_, mulI_ok ((k : Int) + 1) 69621 (by decide)⟩
      have g := fmod_inI (u + v + 11) (n := 2147483647) (by decide)
      obtain ⟨m, hm⟩ : ∃ m : Int, (u + v + 11).fmod 2147483647 = m := ⟨_, rfl⟩
      rw [hm] at g
      have e3 := mulI_ok m m (by omega)
      obtain ⟨t, e4⟩ : ∃ t, mulI (.int 40692) (.int ((k : Int) + 3)) = some (.int t) := ⟨_, mulI_ok' 40692 ((k : Int) + 3) (by decide)⟩
      obtain ⟨m2, hm2'⟩ : ∃ m2 : Int, (m * m + t).fmod 2147483399 = m2 := ⟨_, rfl⟩
      refine ⟨_, [.va (.int c), .va (.int n), .va (.int rest), .va (.bool b), .va (.int a), .ow (li .int (ds ++ [(m2.fdiv 64).fmod 5040])), .va (.int k), .va (.int m2)], rfl, .inl ?_, ds ++ [(m2.fdiv 64).fmod 5040], (more _).1, (more _).2, _, _, _, rfl⟩
      refine (blk_nx ?_).trans rfl
      refine (if_f ?_).trans ((blk_nx (r1 := [.va (.int c), .va (.int n), .va (.int rest), .va (.bool b), .va (.int a), .ow (li .int ds), .va (.int k), .va (.int m)]) ?_).trans ((blk_nx (r1 := [.va (.int c), .va (.int n), .va (.int rest), .va (.bool b), .va (.int a), .ow (li .int ds), .va (.int k), .va (.int m2)]) ?_).trans ((blk_nx (app _ ((m2.fdiv 64).fmod 5040) _ _ ?_)).trans rfl)))
      · cases b with
        | false => simp
        | true =>
          have : ¬ rest > 0 := fun z => hc ⟨rfl, z⟩
          simp only [ev_and, ev_tr, ev_v, List.set_cons_succ, List.set_cons_zero, List.getElem?_cons_succ, List.getElem?_cons_zero, Option.bind_some, truD_bool, if_true, ev_op, ev_k, gtD_int, this, decide_false]
      · rw [ev_sAsg, op_mod (x := u + v + 11) ?_ (by decide), hm]
        · rfl
        · exact op_ev (op_ev (op_ev rfl rfl hm1) (op_ev (op_ev rfl rfl (addD_int _ _)) rfl hm2) (addD_int _ _)) rfl (addD_int _ _)
      · simp [e3, e4, modD_ok _ 2147483399 (by decide), hm2']
      · simp [fdivD_ok m2 64 (by decide), modD_ok _ 5040 (by decide)])
  refine ⟨ds, h1, h2, run_def (r0 := [.va (.int c), .va (.int n), .no, .no, .no, .no, .no, .no]) (z := .rt (li .int ds)) rfl rfl ((blk_nx (r1 := [.va (.int c), .va (.int n), .va (.int a), .no, .no, .no, .no, .no]) ?_).trans ((blk_nx (r1 := [.va (.int c), .va (.int n), .va (.int a), .va (.bool b), .no, .no, .no, .no]) ?_).trans ((blk_nx (r1 := [.va (.int c), .va (.int n), .va (.int a), .va (.bool b), .va (.int a), .no, .no, .no]) rfl).trans ((blk_nx (r1 := [.va (.int c), .va (.int n), .va (.int a), .va (.bool b), .va (.int a), .ow (li .int []), .no, .no]) rfl).trans ((blk_nx ((for_ev hr).trans q)).trans (ret_ev rfl))))))⟩
  · simp [ha]
  · simp only [ev_sAsg, ev_op, ev_v, ev_k, List.getElem?_cons_succ, List.getElem?_cons_zero, Option.bind_some, hb']
    rfl
end Dm.M
end

section
set_option Elab.async false
set_option linter.all false
set_option maxRecDepth 100000
set_option maxHeartbeats 1000000
/-! K93M1: what the defs of k93 compute, as Lean functions. -/
namespace Dm.M
open PySem PySem.W
abbrev eI : List Int → D := tu .int
abbrev eW : List (List Int) → D := tu (tu .int)
/-- no two alike side by side -/
def adj (row : List Int) : Bool := (List.range (row.length - 1)).all fun i => !decide (row[i]? = row[i + 1]?)
def isDuty (ws : List (List Int)) (row : List Int) : Bool := decide (row.length = ws.length) && ((row.zip ws).all fun p => decide (p.1 ∈ p.2)) && adj row
theorem rangeL_sub (n : Nat) : rangeL 0 ((n : Int) - 1) = (List.range (n - 1)).map fun i : Nat => .int (i : Int) := by
  have e : ((n : Int) - 1 - 0).toNat = n - 1 := by omega
  simp [rangeL, e]
theorem is_duty_eq (ws : List (List Int)) (row : List Int) (h : row.length ≤ 1000) : F_is_duty [eW ws, eI row] = some (.bool (isDuty ws row)) := by
  unfold F_is_duty B_is_duty isDuty
  by_cases h1 : row.length = ws.length
  · simp [h1]
    rw [qL_all (fun p : Int × List Int => decide (p.1 ∈ p.2)) _ (fun x hx => by simp)]
    cases h2 : (row.zip ws).all fun p => decide (p.1 ∈ p.2) with
    | false => simp [h2]
    | true =>
      have hr : rgI (kE (.int 0)) (opE subD (unE lenD (vE 1)) (kE (.int 1))) [.va (eW ws), .va (eI row), .no, .no, .no] = some ((List.range (row.length - 1)).map fun i : Nat => .int (i : Int)) := by
        rw [rg_ev (x := 0) (y := (row.length : Int) - 1) (by simp) (by simp) (by omega) (by omega), rangeL_sub]
      simp [h2, hr]
      rw [qL_all (fun i : Nat => !decide (row[i]? = row[i + 1]?)) _ (fun x hx => by
        have hx' := List.mem_range.mp hx
        have e1 : (row[x]?).isSome := by simp; omega
        have e2 : (row[x + 1]?).isSome := by simp; omega
        obtain ⟨u, hu⟩ := Option.isSome_iff_exists.mp e1
        obtain ⟨v, hv⟩ := Option.isSome_iff_exists.mp e2
        simp [hu, hv])]
      simp [adj, h1]
  · have h2 : ¬ (row.length : Int) = ws.length := by omega
    simp [h1, h2]
/-! ### the ways from behind -/
/-- the value of a warden, by the dict of the week behind -/
def val (l : Option ((Int → Int) × List Int)) (w : Int) : Int := match l with
  | none => 1
  | some (g, ks) => ((ks.filter fun o => !decide (o = w)).map g).sum
def lastD (l : Option ((Int → Int) × List Int)) : D := match l with
  | none => .none
  | some (g, ks) => .dict (dI (fun k => .int (g k)) ks)
def B_ways_in : S := blk [(sIf (trT (unE isND (vE 3))) (blk [(sPut 4 (vE 5) (kE (.int 1)))]) (blk [(sPut 4 (vE 5) (unE sumD (lstI (compI [6] (keysI (vE 3)) (.nm 6) (trT (opE neD (vE 6) (vE 5))) (opE ixD (vE 3) (vE 6))))))]))]
theorem ways_in (l : Option ((Int → Int) × List Int)) (hl : ∀ g ks, l = some (g, ks) → ks.length ≤ 1000) (able : List Int) (hn : able.Nodup) (ha : able.length ≤ 1000) (s0 s1 s2 s5 s6 : Slot) :
    ∃ s5' s6', forL (.nm 5) B_ways_in (able.map .int) [s0, s1, s2, .va (lastD l), .ow (.dict []), s5, s6] = some (.nx [s0, s1, s2, .va (lastD l), .ow (.dict (dI (fun w => .int (val l w)) able)), s5', s6']) := by
  have := forL_all (e := PyData.int) (tg := .nm 5) (b := B_ways_in) (fun done r => ∃ s5' s6', r = [s0, s1, s2, .va (lastD l), .ow (.dict (dI (fun w => .int (val l w)) done)), s5', s6']) able [] [s0, s1, s2, .va (lastD l), .ow (.dict []), s5, s6] ⟨s5, s6, rfl⟩ ?_
  · obtain ⟨r', h1, s5', s6', rfl⟩ := this
    exact ⟨s5', s6', h1⟩
  · rintro done x rest r hd ⟨s5', s6', rfl⟩
    have hd' : able = done ++ x :: rest := hd
    have hx : x ∉ done := fun q => by
      rw [hd', List.nodup_append] at hn
      exact hn.2.2 x q x List.mem_cons_self rfl
    have hlen : done.length + 1 ≤ 1000 := by
      rw [hd'] at ha
      simp at ha
      omega
    have hok : lenOk (done.length + 1) = true := lenOk_small (by omega)
    cases l with
    | none =>
      refine ⟨_, _, rfl, .inl ?_, .va (.int x), s6', rfl⟩
      simp [B_ways_in, lastD, fitsK_dI, len_dI, hok, putD_new _ _ _ _ hx]
      rw [dI_snoc]
      rfl
    | some gk =>
      obtain ⟨g, ks⟩ := gk
      have hk := hl g ks rfl
      refine ⟨_, _, rfl, .inl ?_, .va (.int x), s6', rfl⟩
      simp [B_ways_in, lastD, fitsK_dI, len_dI, hok, keys_dI]
      rw [compL_map (e := PyData.int) (f := PyData.int) (fun o => !decide (o = x)) g ks (fun o ho => by simp [ixD_dI _ _ _ ho])]
      have hf : lenOk (ks.filter fun o => !decide (o = x)).length = true := lenOk_filter (by omega)
      simp [fitL, hf, putD_new _ _ _ _ hx]
      rw [dI_snoc]
      rfl
/-- the ends of the weeks -/
def sufs : List (List Int) → List (List (List Int))
  | [] => []
  | a :: r => (a :: r) :: sufs r
/-- how many duties of these weeks begin with w -/
def cntW : List (List Int) → Int → Int
  | [], _ => 1
  | [_], _ => 1
  | _ :: b :: r, w => ((b.filter fun o => !decide (o = w)).map (cntW (b :: r))).sum
def wayD : List (List Int) → D
  | [] => .none
  | a :: r => .dict (dI (fun w => .int (cntW (a :: r) w)) a)
def lastOf : List (List Int) → Option ((Int → Int) × List Int)
  | [] => none
  | a :: r => some (cntW (a :: r), a)
theorem lastD_of (s : List (List Int)) : lastD (lastOf s) = wayD s := by cases s <;> rfl
theorem val_of (x : List Int) (s : List (List Int)) (w : Int) : val (lastOf s) w = cntW (x :: s) w := by
  cases s with
  | nil => rfl
  | cons a r => rfl
theorem sufs_snoc (s : List (List Int)) : (sufs s).head? = match s with | [] => none | a :: r => some (a :: r) := by cases s <;> rfl
theorem sufs_len : ∀ s : List (List Int), (sufs s).length = s.length
  | [] => rfl
  | _ :: r => by simp [sufs, sufs_len r]
/-- weeks as they come -/
structure Wk (ws : List (List Int)) : Prop where
  st : ∀ a ∈ ws, a.Pairwise (· < ·)
  sh : ∀ a ∈ ws, a.length ≤ 60
  ln : ws.length ≤ 60
theorem Wk.nd {ws : List (List Int)} (h : Wk ws) {a : List Int} (ha : a ∈ ws) : a.Nodup := (h.st a ha).imp fun q => Int.ne_of_lt q
theorem Wk.tl {a : List Int} {ws : List (List Int)} (h : Wk (a :: ws)) : Wk ws := ⟨fun b hb => h.st b (List.mem_cons_of_mem _ hb), fun b hb => h.sh b (List.mem_cons_of_mem _ hb), by have := h.ln; simp at this; omega⟩
theorem ways_behind_eq (ws : List (List Int)) (h : Wk ws) : F_ways_behind [eW ws] = some (.list ((sufs ws).map wayD)) := by
  have := forL_all (e := tu PyData.int) (tg := .nm 2) (b := blk [(sAsg (.nm 3) (ifE (trT (bE 1)) (opE ixD (bE 1) (unE negD (kE (.int 1)))) (kE .none))), (sOwn 4 (dispE [])), (sFor (seqI (vE 2)) (.nm 5) B_ways_in), (sAppMv 1 4)])
    (fun done r => ∃ s2 s3 s4 s5 s6, r = [.va (eW ws), .ow (.list ((sufs done.reverse).reverse.map wayD)), s2, s3, s4, s5, s6]) ws.reverse [] [.va (eW ws), .ow (.list []), .no, .no, .no, .no, .no] ⟨_, _, _, _, _, rfl⟩ ?_
  · obtain ⟨r', h1, s2, s3, s4, s5, s6, rfl⟩ := this
    unfold F_ways_behind B_ways_behind
    simp [B_ways_in] at h1 ⊢
    rw [h1]
    simp [backD]
  · rintro done x rest r hd ⟨s2, s3, s4, s5, s6, rfl⟩
    have hd' : ws.reverse = done ++ x :: rest := hd
    have hx : x ∈ ws := List.mem_reverse.mp (by rw [hd']; simp)
    have hlen : done.length + 1 ≤ 60 := by
      have := h.ln
      rw [← List.length_reverse, hd'] at this
      simp at this
      omega
    have hi := ways_in (lastOf done.reverse) (fun g ks q => by
      cases hr : done.reverse with
      | nil => rw [hr] at q; cases q
      | cons a r =>
        rw [hr] at q
        cases q
        have : ks ∈ ws := by
          have h2 : ks ∈ done := List.mem_reverse.mp (by rw [hr]; simp)
          exact List.mem_reverse.mp (by rw [hd']; simp [h2])
        have := h.sh ks this
        omega) x (h.nd hx) (by have := h.sh x hx; omega) (.va (eW ws)) (.ow (.list ((sufs done.reverse).reverse.map wayD))) (.va (eI x)) s5 s6
    obtain ⟨s5', s6', hi⟩ := hi
    refine ⟨_, _, rfl, .inl ?_, .va (eI x), .va (wayD done.reverse), .va (wayD (x :: done.reverse)), s5', s6', rfl⟩
    have e0 : (fun w => PyData.int (val (lastOf done.reverse) w)) = fun w => PyData.int (cntW (x :: done.reverse) w) := funext fun w => by rw [val_of x done.reverse w]
    have e2 : lenOk ((sufs done.reverse).length + 1) = true := lenOk_small (by rw [sufs_len, List.length_reverse]; omega)
    rw [e0, lastD_of] at hi
    rw [List.reverse_append]
    generalize hs : done.reverse = s at *
    cases s with
    | nil =>
      simp [sufs, wayD] at hi ⊢
      simp [hi, lenOk_small (n := 1) (by decide)]
    | cons a q =>
      simp [sufs, wayD] at hi e2 ⊢
      simp [hi, e2]
/-- the duty that is told -/
def greedy (l : Option Int) : List (List Int) → Option (List Int)
  | [] => some []
  | a :: r => match a.filter fun w => decide (cntW (a :: r) w > 0) && !decide (l = some w) with
    | [] => none
    | w :: _ => (greedy (some w) r).map (w :: ·)
def B_told_in : S := blk [(sAsg (.nm 3) (lstI (compI [4] (seqI (unE sortKD (vE 2))) (.nm 4) (andT (trT (opE gtD (opE ixD (vE 2) (vE 4)) (kE (.int 0)))) (trT (opE ninD (vE 4) (cutE (vE 1) (some (unE negD (kE (.int 1)))) none)))) (vE 4)))), (sIf (notT (trT (vE 3))) (blk [(sRet (kE .none))]) (blk [])), (sAsg (.nm 1) (opE addD (vE 1) (tupE [(opE ixD (vE 3) (kE (.int 0)))])))]
theorem told_in : ∀ (ws : List (List Int)) (h : Wk ws) (duty : List Int) (hd : duty.length + ws.length ≤ 1000) (s0 s2 s3 s4 : Slot),
    (greedy duty.getLast? ws = none → forL (.nm 2) B_told_in ((sufs ws).map wayD) [s0, .va (eI duty), s2, s3, s4] = some (.rt .none)) ∧
    ∀ row, greedy duty.getLast? ws = some row → ∃ s2' s3' s4', forL (.nm 2) B_told_in ((sufs ws).map wayD) [s0, .va (eI duty), s2, s3, s4] = some (.nx [s0, .va (eI (duty ++ row)), s2', s3', s4'])
  | [], h, duty, hd, s0, s2, s3, s4 => ⟨(fun q => by cases q), fun row q => by
    cases q
    exact ⟨s2, s3, s4, by rw [List.append_nil]; rfl⟩⟩
  | a :: r, h, duty, hd, s0, s2, s3, s4 => by
    have ha : a.length ≤ 60 := h.sh a List.mem_cons_self
    have hs : sortKD (.dict (dI (fun w => .int (cntW (a :: r) w)) a)) = some (li .int a) := sortKD_dI ((h.st a List.mem_cons_self).imp fun q => Int.le_of_lt q) (by omega)
    have hc := compL_map (e := PyData.int) (f := PyData.int) (r := [s0, .va (eI duty), .va (.dict (dI (fun w => .int (cntW (a :: r) w)) a)), s3, .no]) (tg := .nm 4) (ts := andT (trT (opE gtD (opE ixD (vE 2) (vE 4)) (kE (.int 0)))) (trT (opE ninD (vE 4) (cutE (vE 1) (some (unE negD (kE (.int 1)))) none)))) (el := vE 4)
      (fun w => decide (cntW (a :: r) w > 0) && !decide (duty.getLast? = some w)) id a (fun w hw => by
        refine ⟨_, rfl, ?_, fun _ => rfl⟩
        simp [ixD_dI _ _ _ hw]
        by_cases h1 : 0 < cntW (a :: r) w
        · simp [h1, mem_last]
        · simp [h1])
    simp only [List.map_id] at hc
    have hfl : (a.filter fun w => decide (cntW (a :: r) w > 0) && !decide (duty.getLast? = some w)).length ≤ 60 := Nat.le_trans (List.length_filter_le _ _) ha
    cases hf : a.filter fun w => decide (cntW (a :: r) w > 0) && !decide (duty.getLast? = some w) with
    | nil =>
      rw [hf] at hc
      refine ⟨fun _ => ?_, fun row q => by simp [greedy, hf] at q⟩
      simp [sufs, wayD, forL, B_told_in, hs, hc, fitL]
    | cons w ws' =>
      rw [hf] at hc hfl
      have hg : greedy duty.getLast? (a :: r) = (greedy (some w) r).map (w :: ·) := by rw [greedy, hf]
      have hstep : ∃ s4', forL (.nm 2) B_told_in ((sufs (a :: r)).map wayD) [s0, .va (eI duty), s2, s3, s4] = forL (.nm 2) B_told_in ((sufs r).map wayD) [s0, .va (eI (duty ++ [w])), .va (wayD (a :: r)), .va (.list ((w :: ws').map .int)), s4'] := by
        refine ⟨s4, ?_⟩
        have hok : lenOk ((w :: ws').map PyData.int).length = true := lenOk_small (by rw [List.length_map]; omega)
        simp [sufs, wayD, forL, B_told_in, hs, hc, fitL]
        simp at hok
        simp [hok, add_one duty w (by simp at hd; omega)]
      obtain ⟨s4', e⟩ := hstep
      obtain ⟨i1, i2⟩ := told_in r h.tl (duty ++ [w]) (by simp at hd ⊢; omega) s0 (.va (wayD (a :: r))) (.va (.list ((w :: ws').map .int))) s4'
      rw [List.getLast?_concat] at i1 i2
      rw [e, hg]
      refine ⟨fun q => i1 (by cases hq : greedy (some w) r with | none => rfl | some z => rw [hq] at q; cases q), fun row q => ?_⟩
      cases hq : greedy (some w) r with
      | none => rw [hq] at q; cases q
      | some z =>
        rw [hq] at q
        cases q
        obtain ⟨a1, a2, a3, e3⟩ := i2 z hq
        exact ⟨a1, a2, a3, by rw [e3, List.append_assoc]; rfl⟩
def optI : Option (List Int) → D
  | none => .none
  | some r => eI r
theorem told_duty_eq (ws : List (List Int)) (h : Wk ws) : F_told_duty [eW ws] = some (optI (greedy none ws)) := by
  obtain ⟨i1, i2⟩ := told_in ws h [] (by have := h.ln; simp; omega) (.va (eW ws)) .no .no .no
  unfold F_told_duty B_told_duty
  have e : ∀ s, forL (.nm 2) B_told_in ((sufs ws).map wayD) s = forL (Tg.nm 2) (blk [(sAsg (.nm 3) (lstI (compI [4] (seqI (unE sortKD (vE 2))) (.nm 4) (andT (trT (opE gtD (opE ixD (vE 2) (vE 4)) (kE (.int 0)))) (trT (opE ninD (vE 4) (cutE (vE 1) (some (unE negD (kE (.int 1)))) none)))) (vE 4)))), (sIf (notT (trT (vE 3))) (blk [(sRet (kE .none))]) (blk [])), (sAsg (.nm 1) (opE addD (vE 1) (tupE [(opE ixD (vE 3) (kE (.int 0)))])))]) ((sufs ws).map wayD) s := fun s => rfl
  have e0 : PyData.tuple [] = eI [] := rfl
  cases hg : greedy none ws with
  | none =>
    have q := i1 (by simpa using hg)
    rw [e] at q
    simp [ways_behind_eq ws h, e0, q, optI]
  | some row =>
    obtain ⟨a1, a2, a3, q⟩ := i2 row (by simpa using hg)
    rw [e] at q
    simp [ways_behind_eq ws h, e0, q, optI]
theorem number_of_duties_eq (ws : List (List Int)) (h : Wk ws) : F_number_of_duties [eW ws] = some (.int (match ws with | [] => 1 | a :: r => (a.map (cntW (a :: r))).sum)) := by
  unfold F_number_of_duties B_number_of_duties
  cases ws with
  | nil => simp
  | cons a r =>
    have ha : a.length ≤ 60 := h.sh a List.mem_cons_self
    have hne : ¬ ((r.length : Int) + 1 = 0) := by omega
    simp [ways_behind_eq _ h, sufs, wayD, hne, keys_dI]
    rw [compL_map (e := PyData.int) (f := PyData.int) (fun _ => true) (cntW (a :: r)) a (fun o ho => by simp [ixD_dI _ _ _ ho])]
    have hok : lenOk a.length = true := lenOk_small (by omega)
    simp [fitL, hok]
end Dm.M
end

section
set_option Elab.async false
set_option linter.all false
set_option maxRecDepth 100000
set_option maxHeartbeats 1000000
/-! K93M2: bounds, vises, free wardens. -/
namespace Dm.M
open PySem PySem.W
/-- who is bound behind these weeks, if b is ahead of them -/
def bnd (b : Int) : List (List Int) → Option Int
  | [] => some b
  | [x, y] :: r => if y = b then bnd x r else if x = b then bnd y r else none
  | _ :: _ => none
def optN : Option Int → D
  | none => .none
  | some b => .int b
def B_bound_in : S := blk [(sIf (orT (trT (opE neD (unE lenD (opE ixD (vE 0) (vE 4))) (kE (.int 2)))) (trT (opE ninD (vE 3) (opE ixD (vE 0) (vE 4))))) (blk [(sRet (kE .none))]) (blk [])), (sAsg (.nm 3) (ifE (trT (opE eqD (opE ixD (opE ixD (vE 0) (vE 4)) (kE (.int 1))) (vE 3))) (opE ixD (opE ixD (vE 0) (vE 4)) (kE (.int 0))) (opE ixD (opE ixD (vE 0) (vE 4)) (kE (.int 1)))))]
theorem bound_in (ws : List (List Int)) (s1 s2 : Slot) : ∀ (k s : Nat) (b : Int) (s4 : Slot), s + k ≤ ws.length →
    (bnd b ((ws.drop s).take k) = none → forL (.nm 4) B_bound_in ((List.range' s k).map fun n : Nat => .int (n : Int)) [.va (eW ws), s1, s2, .va (.int b), s4] = some (.rt .none)) ∧
    ∀ c, bnd b ((ws.drop s).take k) = some c → ∃ s4', forL (.nm 4) B_bound_in ((List.range' s k).map fun n : Nat => .int (n : Int)) [.va (eW ws), s1, s2, .va (.int b), s4] = some (.nx [.va (eW ws), s1, s2, .va (.int c), s4'])
  | 0, s, b, s4, h => ⟨(fun q => by simp [bnd] at q), fun c q => by
    simp [bnd] at q
    subst q
    exact ⟨s4, rfl⟩⟩
  | k + 1, s, b, s4, h => by
    have hs : s < ws.length := by omega
    have hw : ws[s]? = some ws[s] := List.getElem?_eq_getElem hs
    generalize ws[s] = w at hw
    have ed : (ws.drop s).take (k + 1) = w :: (ws.drop (s + 1)).take k := by
      rw [List.drop_eq_getElem_cons hs, List.take_succ_cons]
      congr 1
      rw [List.getElem?_eq_getElem hs] at hw
      cases hw
      rfl
    have er : (List.range' s (k + 1)).map (fun n : Nat => PyData.int (n : Int)) = .int s :: (List.range' (s + 1) k).map fun n : Nat => PyData.int (n : Int) := rfl
    rw [ed, er]
    have stop : (¬ w.length = 2 ∨ b ∉ w) → bnd b (w :: (ws.drop (s + 1)).take k) = none ∧ forL (.nm 4) B_bound_in (.int s :: (List.range' (s + 1) k).map fun n : Nat => PyData.int (n : Int)) [.va (eW ws), s1, s2, .va (.int b), s4] = some (.rt .none) := by
      intro hn
      constructor
      · match w, hn with
        | [], _ => rfl
        | [_], _ => rfl
        | [x, y], hn =>
          simp at hn
          have h1 : ¬ y = b := fun z => hn.2 z.symm
          have h2 : ¬ x = b := fun z => hn.1 z.symm
          simp [bnd, h1, h2]
        | _ :: _ :: _ :: _, _ => rfl
      · rw [forL_cons]
        by_cases h2 : (w.length : Int) = 2
        · have h3 : b ∉ w := hn.resolve_left (by omega)
          simp [B_bound_in, hw, h2, h3]
        · simp [B_bound_in, hw, h2]
    by_cases hg : w.length = 2 ∧ b ∈ w
    · match w, hg with
      | [x, y], ⟨_, hb⟩ =>
        have e1 : forL (.nm 4) B_bound_in (.int s :: (List.range' (s + 1) k).map fun n : Nat => PyData.int (n : Int)) [.va (eW ws), s1, s2, .va (.int b), s4] = forL (.nm 4) B_bound_in ((List.range' (s + 1) k).map fun n : Nat => PyData.int (n : Int)) [.va (eW ws), s1, s2, .va (.int (if y = b then x else y)), .va (.int s)] := by
          rw [forL_cons]
          simp at hb
          by_cases hy : y = b
          · simp [B_bound_in, hw, hb, hy]
          · simp [B_bound_in, hw, hb, hy]
        have e2 : bnd b ([x, y] :: (ws.drop (s + 1)).take k) = bnd (if y = b then x else y) ((ws.drop (s + 1)).take k) := by
          by_cases hy : y = b
          · simp [bnd, hy]
          · have hx : x = b := by
              simp at hb
              rcases hb with z | z
              · exact z.symm
              · exact absurd z.symm hy
            simp [bnd, hy, hx]
        obtain ⟨i1, i2⟩ := bound_in ws s1 s2 k (s + 1) (if y = b then x else y) (.va (.int s)) (by omega)
        rw [e1, e2]
        exact ⟨i1, i2⟩
    · obtain ⟨q1, q2⟩ := stop (by
        by_cases h2 : w.length = 2
        · exact .inr fun z => hg ⟨h2, z⟩
        · exact .inl h2)
      rw [q1]
      exact ⟨fun _ => q2, (fun c q => by cases q)⟩
theorem range_up (i j : Nat) : rangeL ((i : Int) + 1) ((j : Int) + 1) = (List.range' (i + 1) (j - i)).map fun n : Nat => .int (n : Int) := by
  have := rangeL_nats (i + 1) (j + 1)
  rw [Nat.add_sub_add_right] at this
  rw [Int.natCast_add, Int.natCast_add] at this
  exact this
theorem big_up (i : Nat) (h : i ≤ 1000) : big62 ((i : Int) + 1) = true := by
  unfold big62
  exact decide_eq_true (by omega)
theorem B_bound_by_eq : B_bound_by = blk [(sAsg (.nm 3) (opE ixD (opE ixD (vE 0) (vE 1)) (kE (.int 0)))), (sFor (rgI (opE addD (vE 1) (kE (.int 1))) (opE addD (vE 2) (kE (.int 1)))) (.nm 4) B_bound_in), (sRet (vE 3))] := rfl
theorem bound_head (ws : List (List Int)) (i j : Nat) (b : Int) (t : List Int) (hi : ws[i]? = some (b :: t)) : sAsg (.nm 3) (opE ixD (opE ixD (vE 0) (vE 1)) (kE (.int 0))) [.va (eW ws), .va (.int i), .va (.int j), .no, .no] = some (.nx [.va (eW ws), .va (.int i), .va (.int j), .va (.int b), .no]) := by
  simp [hi]
theorem bound_rg (ws : List (List Int)) (hl : ws.length ≤ 1000) (i j : Nat) (b : Int) (hij : i ≤ j) (hj : j < ws.length) : rgI (opE addD (vE 1) (kE (.int 1))) (opE addD (vE 2) (kE (.int 1))) [.va (eW ws), .va (.int i), .va (.int j), .va (.int b), .no] = some ((List.range' (i + 1) (j - i)).map fun n : Nat => .int (n : Int)) := by
  rw [rg_ev (x := (i : Int) + 1) (y := (j : Int) + 1) (by simp) (by simp) (by omega) (by omega), range_up]
def outV (i : Nat) : Res → Option D
  | .nx r1 => vE i r1
  | .rt d => some d
  | _ => none
theorem bound_run (a0 a1 a2 c3 c4 : D) (xs : List D) (z : Res)
    (h1 : sAsg (.nm 3) (opE ixD (opE ixD (vE 0) (vE 1)) (kE (.int 0))) [.va a0, .va a1, .va a2, .no, .no] = some (.nx [.va a0, .va a1, .va a2, .va c3, .no]))
    (h2 : rgI (opE addD (vE 1) (kE (.int 1))) (opE addD (vE 2) (kE (.int 1))) [.va a0, .va a1, .va a2, .va c3, .no] = some xs)
    (q : forL (.nm 4) B_bound_in xs [.va a0, .va a1, .va a2, .va c3, .no] = some z) : F_bound_by [a0, a1, a2] = outV 3 z := by
  unfold F_bound_by
  rw [B_bound_by_eq, ev_def]
  have e0 : List.map Slot.va [a0, a1, a2] ++ List.replicate (5 - 3) Slot.no = [.va a0, .va a1, .va a2, .no, .no] := rfl
  have e1 : [a0, a1, a2].length = 3 := rfl
  rw [e0, if_pos e1, ev_blk1, h1, Option.bind_some]
  dsimp only
  rw [ev_blk1, ev_sFor, h2, Option.bind_some, q, Option.bind_some]
  cases z with
  | nx r1 =>
    show (match blk [sRet (vE 3)] r1 with | some (.rt d) => some d | some (.nx _) => some .none | _ => none) = vE 3 r1
    rw [ev_blk1, ev_sRet]
    cases vE 3 r1 <;> rfl
  | rt d => rfl
  | bk r1 => rfl
  | ct r1 => rfl
theorem bound_by_eq (ws : List (List Int)) (hl : ws.length ≤ 1000) (i j : Nat) (b : Int) (t : List Int) (hi : ws[i]? = some (b :: t)) (hij : i ≤ j) (hj : j < ws.length) : F_bound_by [eW ws, .int i, .int j] = some (optN (bnd b ((ws.drop (i + 1)).take (j - i)))) := by
  have h1 := bound_head ws i j b t hi
  have h2 := bound_rg ws hl i j b hij hj
  have h3 : i + 1 + (j - i) ≤ ws.length := by omega
  cases hb : bnd b ((ws.drop (i + 1)).take (j - i)) with
  | none => exact bound_run _ _ _ _ (.int 0) _ _ h1 h2 ((bound_in ws (.va (.int i)) (.va (.int j)) (j - i) (i + 1) b .no h3).1 hb)
  | some c =>
    obtain ⟨s4', q⟩ := (bound_in ws (.va (.int i)) (.va (.int j)) (j - i) (i + 1) b .no h3).2 c hb
    exact bound_run _ _ _ _ (.int 0) _ _ h1 h2 q
/-- is i, j a vise -/
def isVise (ws : List (List Int)) (i j : Nat) : Bool :=
  if i = j then decide (ws[i]? = some []) else
    match ws[i]?, ws[j]? with
    | some [b], some [c] => decide (bnd b ((ws.drop (i + 1)).take (j - 1 - i)) = some c)
    | _, _ => false
theorem is_vise_eq (ws : List (List Int)) (hl : ws.length ≤ 1000) (i j : Nat) (hij : i ≤ j) (hj : j < ws.length) : F_is_vise [eW ws, .int i, .int j] = some (.bool (isVise ws i j)) := by
  have hi : i < ws.length := by omega
  have h1 : ws[i]? = some ws[i] := List.getElem?_eq_getElem hi
  have h2 : ws[j]? = some ws[j] := List.getElem?_eq_getElem hj
  generalize ws[i] = a at h1
  generalize ws[j] = c at h2
  unfold F_is_vise B_is_vise isVise
  have c1 : (0 : Int) ≤ (i : Int) := by omega
  have c2 : (i : Int) ≤ (j : Int) := by omega
  have c3 : (j : Int) < (ws.length : Int) := by omega
  have c4 : chE3 leD leD ltD (kE (.int 0)) (vE 1) (vE 2) (unE lenD (vE 0)) [.va (eW ws), .va (.int i), .va (.int j)] = some (.bool true) := by
    unfold chE3
    simp [c1, c2, c3]
  by_cases e : i = j
  · subst e
    simp [c4, h1]
  · have e' : ¬ ((i : Int) = (j : Int)) := by omega
    by_cases k1 : a.length = 1
    · by_cases k2 : c.length = 1
      · match a, c, k1, k2 with
        | [x], [y], _, _ =>
          have hb := bound_by_eq ws hl i (j - 1) x [] h1 (by omega) (by omega)
          have ej : ((j : Int) - 1) = ((j - 1 : Nat) : Int) := by omega
          simp [c4, e, e', h1, h2]
          rw [ej, hb]
          cases bnd x ((ws.drop (i + 1)).take (j - 1 - i)) with
          | none =>
            have : eqD .none (.int y) = some (.bool false) := rfl
            simp [optN, this]
          | some z => simp [optN]
      · have k2' : ¬ (c.length : Int) = 1 := by omega
        have k1' : (a.length : Int) = 1 := by omega
        simp [c4, e, e', h1, h2, k1', k2']
        match c, k2 with
        | [], _ => simp
        | [_], k2 => simp at k2
        | _ :: _ :: _, _ => simp
    · have k1' : ¬ (a.length : Int) = 1 := by omega
      simp [c4, e, e', h1, h2, k1']
      match a, k1 with
      | [], _ => simp
      | [_], k2 => simp at k2
      | _ :: _ :: _, _ => simp
/-! ### the vise that is told -/
def viseAt (ws : List (List Int)) (i : Nat) : Option Nat := (List.range' i (ws.length - i)).find? (isVise ws i)
def toldVise (ws : List (List Int)) : Option (Nat × Nat) := ((List.range ws.length).find? fun i => (viseAt ws i).isSome).map fun i => (i, (viseAt ws i).getD 0)
def optP : Option (Nat × Nat) → D
  | none => .none
  | some p => .tuple [.int p.1, .int p.2]
def B_vise_in : S := blk [(sIf (trT (callE F_is_vise [(vE 0), (vE 1), (vE 2)])) (blk [(sRet (tupE [(vE 1), (vE 2)]))]) (blk []))]
def B_vise_out : S := blk [(sFor (rgI (vE 1) (unE lenD (vE 0))) (.nm 2) B_vise_in)]
theorem vise_in (ws : List (List Int)) (hl : ws.length ≤ 1000) (i : Nat) (hi : i < ws.length) (s2 : Slot) :
    (∀ j, viseAt ws i = some j → forL (.nm 2) B_vise_in ((List.range' i (ws.length - i)).map fun n : Nat => .int (n : Int)) [.va (eW ws), .va (.int i), s2] = some (.rt (.tuple [.int i, .int j]))) ∧
    (viseAt ws i = none → ∃ r', forL (.nm 2) B_vise_in ((List.range' i (ws.length - i)).map fun n : Nat => .int (n : Int)) [.va (eW ws), .va (.int i), s2] = some (.nx r') ∧ ∃ s2', r' = [.va (eW ws), .va (.int i), s2']) := by
  refine forL_find (fun r => ∃ s2', r = [.va (eW ws), .va (.int i), s2']) (isVise ws i) (fun j : Nat => .tuple [.int i, .int j]) (List.range' i (ws.length - i)) _ ⟨s2, rfl⟩ ?_
  rintro j hj r ⟨s2', rfl⟩
  have hj' := List.mem_range'_1.mp hj
  have hv := is_vise_eq ws hl i j (by omega) (by omega)
  refine ⟨_, rfl, fun hp => ?_, fun hp => ⟨[.va (eW ws), .va (.int i), .va (.int j)], .inl ?_, .va (.int j), rfl⟩⟩
  · rw [hp] at hv
    simp [B_vise_in, hv]
  · rw [hp] at hv
    simp [B_vise_in, hv]
theorem vise_out (ws : List (List Int)) (hl : ws.length ≤ 1000) (s1 s2 : Slot) :
    (∀ i, (List.range ws.length).find? (fun i => (viseAt ws i).isSome) = some i → forL (.nm 1) B_vise_out ((List.range ws.length).map fun n : Nat => .int (n : Int)) [.va (eW ws), s1, s2] = some (.rt (.tuple [.int i, .int ((viseAt ws i).getD 0 : Nat)]))) ∧
    ((List.range ws.length).find? (fun i => (viseAt ws i).isSome) = none → ∃ r', forL (.nm 1) B_vise_out ((List.range ws.length).map fun n : Nat => .int (n : Int)) [.va (eW ws), s1, s2] = some (.nx r') ∧ ∃ s1' s2', r' = [.va (eW ws), s1', s2']) := by
  refine forL_find (fun r => ∃ s1' s2', r = [.va (eW ws), s1', s2']) (fun i => (viseAt ws i).isSome) (fun i : Nat => .tuple [.int i, .int ((viseAt ws i).getD 0 : Nat)]) (List.range ws.length) _ ⟨s1, s2, rfl⟩ ?_
  rintro i hi r ⟨s1', s2', rfl⟩
  have hi' := List.mem_range.mp hi
  obtain ⟨v1, v2⟩ := vise_in ws hl i hi' s2'
  have hr : rgI (vE 1) (unE lenD (vE 0)) [.va (eW ws), .va (.int i), s2'] = some ((List.range' i (ws.length - i)).map fun n : Nat => .int (n : Int)) := by
    rw [rg_ev (x := (i : Int)) (y := (ws.length : Int)) (by simp) (by simp) (by omega) (by omega), rangeL_nats]
  refine ⟨_, rfl, fun hp => ?_, fun hp => ?_⟩
  · obtain ⟨j, hj⟩ := Option.isSome_iff_exists.mp hp
    have q := v1 j hj
    show B_vise_out [.va (eW ws), .va (.int i), s2'] = _
    rw [B_vise_out, ev_blk1, ev_sFor, hr, Option.bind_some, q, hj]
    rfl
  · have hn : viseAt ws i = none := by
      cases hv : viseAt ws i with
      | none => rfl
      | some j => rw [hv] at hp; cases hp
    obtain ⟨r', q, s2'', rfl⟩ := v2 hn
    refine ⟨[.va (eW ws), .va (.int i), s2''], .inl ?_, .va (.int i), s2'', rfl⟩
    show B_vise_out [.va (eW ws), .va (.int i), s2'] = _
    rw [B_vise_out, ev_blk1, ev_sFor, hr, Option.bind_some, q]
    rfl
theorem told_vise_eq (ws : List (List Int)) (hl : ws.length ≤ 1000) : F_told_vise [eW ws] = some (optP (toldVise ws)) := by
  obtain ⟨v1, v2⟩ := vise_out ws hl .no .no
  have hr : rgI (kE (.int 0)) (unE lenD (vE 0)) [.va (eW ws), .no, .no] = some ((List.range ws.length).map fun n : Nat => .int (n : Int)) := by
    rw [rg_ev (x := 0) (y := (ws.length : Int)) (by simp) (by simp) (by omega) (by omega), rangeL_nat]
  have eb : B_told_vise = blk [(sFor (rgI (kE (.int 0)) (unE lenD (vE 0))) (.nm 1) B_vise_out), (sRet (kE .none))] := rfl
  unfold F_told_vise toldVise
  rw [eb]
  cases hf : (List.range ws.length).find? fun i => (viseAt ws i).isSome with
  | none =>
    obtain ⟨r', q, s1', s2', rfl⟩ := v2 hf
    exact run_def (z := .rt .none) rfl rfl ((blk_nx ((for_ev hr).trans q)).trans (blk_rt rfl))
  | some i => exact run_def (z := .rt (.tuple [.int i, .int ((viseAt ws i).getD 0 : Nat)])) rfl rfl (blk_rt ((for_ev hr).trans (v1 i hf)))
/-! ### wardens that are free -/
theorem Wk.sub {ws vs : List (List Int)} (h : Wk ws) (hs : ∀ a ∈ vs, a ∈ ws) (hl : vs.length ≤ ws.length) : Wk vs := ⟨fun a ha => h.st a (hs a ha), fun a ha => h.sh a (hs a ha), Nat.le_trans hl h.ln⟩
def free (ws : List (List Int)) (t : Nat) : List Int := (ws.getD t []).filter fun w => decide (cntW (ws.drop t) w > 0) && decide (cntW (ws.take (t + 1)).reverse w > 0)
theorem free_wardens_eq (ws : List (List Int)) (h : Wk ws) (t : Nat) (ht : t < ws.length) : F_free_wardens [eW ws, .int t] = some (eI (free ws t)) := by
  obtain ⟨a, hg⟩ : ∃ a, ws[t]? = some a := ⟨_, List.getElem?_eq_getElem ht⟩
  have hga : ws[t] = a := by
    rw [List.getElem?_eq_getElem ht] at hg
    exact Option.some.inj hg
  have e1 : ws.drop t = a :: ws.drop (t + 1) := by rw [List.drop_eq_getElem_cons ht, hga]
  have e2 : (ws.take (t + 1)).reverse = a :: (ws.take t).reverse := by
    rw [List.take_succ, hg]
    simp
  have w1 : Wk (ws.drop t) := h.sub (fun b hb => List.mem_of_mem_drop hb) (by simp)
  have w2 : Wk (ws.take (t + 1)).reverse := h.sub (fun b hb => List.mem_of_mem_take (List.mem_reverse.mp hb)) (by simp; omega)
  have b1 := ways_behind_eq _ w1
  have b2 := ways_behind_eq _ w2
  have ha : a.length ≤ 60 := h.sh _ (by rw [← hga]; exact List.getElem_mem ht)
  have eg : ws.getD t [] = a := by simp [List.getD, hg]
  unfold free
  rw [eg, e1, e2]
  have s1 : sAsg (.nm 2) (opE ixD (callE F_ways_behind [(cutE (vE 0) (some (vE 1)) none)]) (kE (.int 0))) [.va (eW ws), .va (.int t), .no, .no, .no] = some (.nx [.va (eW ws), .va (.int t), .va (wayD (a :: ws.drop (t + 1))), .no, .no]) := by
    simp [cutL_from, b1]
    simp [e1, sufs]
  have s2 : sAsg (.nm 3) (opE ixD (callE F_ways_behind [(backE (vE 0) (some (vE 1)))]) (kE (.int 0))) [.va (eW ws), .va (.int t), .va (wayD (a :: ws.drop (t + 1))), .no, .no] = some (.nx [.va (eW ws), .va (.int t), .va (wayD (a :: ws.drop (t + 1))), .va (wayD (a :: (ws.take t).reverse)), .no]) := by
    simp [backL_from ws t ht, b2]
    simp [e2, sufs]
  refine run_def (z := .rt (eI (a.filter fun w => decide (cntW (a :: ws.drop (t + 1)) w > 0) && decide (cntW (a :: (ws.take t).reverse) w > 0)))) rfl rfl ((blk_nx s1).trans ((blk_nx s2).trans (blk_rt ?_)))
  rw [ev_sRet, tupl_ev (f := PyData.int) (ys := a.filter fun w => decide (cntW (a :: ws.drop (t + 1)) w > 0) && decide (cntW (a :: (ws.take t).reverse) w > 0))]
  · rfl
  · have := comp_ev (e := PyData.int) (f := PyData.int) (r := [.va (eW ws), .va (.int t), .va (wayD (a :: ws.drop (t + 1))), .va (wayD (a :: (ws.take t).reverse)), .no]) (own := [4]) (it := seqI (opE ixD (vE 0) (vE 1))) (tg := .nm 4) (ts := (andT (trT (opE gtD (opE ixD (vE 2) (vE 4)) (kE (.int 0)))) (trT (opE gtD (opE ixD (vE 3) (vE 4)) (kE (.int 0)))))) (el := vE 4) (xs := a)
      (fun w => decide (cntW (a :: ws.drop (t + 1)) w > 0) && decide (cntW (a :: (ws.take t).reverse) w > 0)) id (by simp [hg]) (by omega) (fun w hw => by
        refine ⟨_, rfl, ?_, fun _ => rfl⟩
        simp [wayD, ixD_dI _ _ _ hw]
        by_cases h1 : 0 < cntW (a :: ws.drop (t + 1)) w <;> simp [h1])
    rw [List.map_id] at this
    exact this
end Dm.M
end

section
set_option Elab.async false
set_option linter.all false
set_option maxRecDepth 100000
set_option maxHeartbeats 1000000
/-! K93M3: the helpers of the law. -/
namespace Dm.M
open PySem PySem.W
theorem isi_tu {α : Type} (e : α → D) (xs : List α) (t : Ty) : isiD t (tu e xs) = some (.bool (match t with | .tup => true | _ => false)) := by cases t <;> rfl
theorem isi_int (a : Int) (t : Ty) : isiD t (.int a) = some (.bool (match t with | .int => true | _ => false)) := by cases t <;> rfl
theorem isi_bool (a : Bool) (t : Ty) : isiD t (.bool a) = some (.bool (match t with | .int => true | .bool => true | _ => false)) := by cases t <;> rfl
theorem is_integer_eq (a : Int) : F__law_is_integer [.int a] = some (.bool true) := by
  refine run_def (z := .rt (.bool true)) rfl rfl (blk_rt ?_)
  simp [isi_int]
theorem law_is_int (n : Nat) (a : Int) : R__law_is (n + 1) [.int a, .int a] = some (.bool true) := by
  refine run_def (z := .rt (.bool true)) rfl rfl ?_
  simp [B__law_is, isi_int, is_integer_eq]
theorem eqD_bool (a b : Bool) : eqD (.bool a) (.bool b) = some (.bool (decide (a = b))) := eqD_enc (e := PyData.bool) a b
theorem law_is_bool (n : Nat) (a : Bool) : R__law_is (n + 1) [.bool a, .bool a] = some (.bool true) := by
  refine run_def (z := .rt (.bool true)) rfl rfl ?_
  have : isNone (.bool a) = false := rfl
  simp [B__law_is, isi_bool, eqD_bool, this]
theorem law_is_none (n : Nat) : R__law_is (n + 1) [.none, .none] = some (.bool true) := by
  refine run_def (z := .rt (.bool true)) rfl rfl ?_
  simp [B__law_is]
theorem law_is_row (n : Nat) (xs : List Int) (h : xs.length ≤ 1000) : R__law_is (n + 2) [eI xs, eI xs] = some (.bool true) := by
  refine run_def (r0 := [.va (eI xs), .va (eI xs), .no]) (z := .rt (.bool true)) rfl rfl ?_
  have hr : rgI (kE (.int 0)) (unE lenD (vE 1)) [.va (eI xs), .va (eI xs), .no] = some ((List.range xs.length).map fun n : Nat => .int (n : Int)) := by
    rw [rg_ev (x := 0) (y := (xs.length : Int)) (by simp) (by simp) (by omega) (by omega), rangeL_nat]
  have hc := comp_ev_all (e := fun n : Nat => PyData.int (n : Int)) (f := PyData.bool) (own := [2]) (tg := .nm 2) (ts := noT) (el := callE (R__law_is (n + 1)) [(opE ixD (vE 0) (vE 2)), (opE ixD (vE 1) (vE 2))]) (fun _ => true) hr (by simp; omega) (fun i hi => by
    have hi' : i < xs.length := List.mem_range.mp hi
    have hg : xs[i]? = some xs[i] := List.getElem?_eq_getElem hi'
    refine ⟨_, rfl, rfl, ?_⟩
    simp [hg, law_is_int])
  have hl := lst_ev hc
  refine (blk_if (by simp)).trans ((blk_if (by simp [isi_tu])).trans ((blk_if (by simp [isi_tu])).trans ((blk_if (by simp [isi_tu])).trans ((blk_if (by simp [isi_tu])).trans (ret_ev ?_)))))
  rw [ev_un, hl, Option.bind_some, allLD_bools]
  simp
theorem is_row (xs : List Int) (h : xs.length ≤ 1000) : F__law_is [eI xs, eI xs] = some (.bool true) := law_is_row 28 xs h
theorem is_int (a : Int) : F__law_is [.int a, .int a] = some (.bool true) := law_is_int 29 a
theorem is_bool (a : Bool) : F__law_is [.bool a, .bool a] = some (.bool true) := law_is_bool 29 a
theorem is_none : F__law_is [.none, .none] = some (.bool true) := law_is_none 29
theorem is_opt (o : Option (List Int)) (h : ∀ r, o = some r → r.length ≤ 1000) : F__law_is [optI o, optI o] = some (.bool true) := by
  cases o with
  | none => exact is_none
  | some r => exact is_row r (h r rfl)
theorem is_integers_eq (xs : List Int) (h : xs.length ≤ 1000) : F__law_is_integers [eI xs] = some (.bool true) := by
  refine run_def (r0 := [.va (eI xs), .no]) (z := .rt (.bool true)) rfl rfl (ret_ev ?_)
  have hc := comp_ev_all (e := PyData.int) (f := PyData.bool) (own := [1]) (it := seqI (vE 0)) (tg := .nm 1) (ts := noT) (el := callE F__law_is_integer [(vE 1)]) (r := [.va (eI xs), .no]) (xs := xs) (fun _ => true) (by simp) (by omega) (fun i hi => ⟨_, rfl, rfl, by simp [is_integer_eq]⟩)
  have hl := lst_ev hc
  simp only [ev_andE, ev_un, ev_v, List.getElem?_cons_zero, Option.bind_some, isi_tu, truD_bool, if_true, hl, allLD_bools]
  simp
/-! ### the duties, found one week after the other -/
def grow (rows : List (List Int)) (a : List Int) : List (List Int) := rows.flatMap fun row => (a.filter fun w => !decide (row.getLast? = some w)).map fun w => row ++ [w]
def duties (ws : List (List Int)) : List (List Int) := ws.foldl grow [[]]
theorem grow_len (rows : List (List Int)) (a : List Int) : (grow rows a).length ≤ rows.length * a.length := by
  induction rows with
  | nil => simp [grow]
  | cons row rows ih =>
    have h1 : ((a.filter fun w => !decide (row.getLast? = some w)).map fun w => row ++ [w]).length ≤ a.length := by
      rw [List.length_map]
      exact List.length_filter_le _ _
    unfold grow at ih ⊢
    rw [List.flatMap_cons, List.length_append, List.length_cons, Nat.succ_mul]
    omega
theorem grow_row {rows : List (List Int)} {a : List Int} {n : Nat} (h : ∀ r ∈ rows, r.length = n) : ∀ r ∈ grow rows a, r.length = n + 1 := by
  intro r hr
  unfold grow at hr
  obtain ⟨row, h1, h2⟩ := List.mem_flatMap.mp hr
  obtain ⟨w, _, rfl⟩ := List.mem_map.mp h2
  simp [h row h1]
theorem grow_app (x y : List (List Int)) (a : List Int) : grow (x ++ y) a = grow x a ++ grow y a := by simp [grow]
def B_duties_in : S := blk [(sAsg (.nm 3) (opE addD (vE 3) (lstI (compI [5] (seqI (vE 2)) (.nm 5) (trT (opE ninD (vE 5) (cutE (vE 4) (some (unE negD (kE (.int 1)))) none))) (opE addD (vE 4) (tupE [(vE 5)]))))))]
theorem duties_in (a : List Int) (ha : a.length ≤ 3) (rows : List (List Int)) (hn : rows.length ≤ 1000000) (hr : ∀ r ∈ rows, r.length ≤ 1000) (s0 s1 s4 s5 : Slot) :
    ∃ s4', forL (.nm 4) B_duties_in (rows.map (tu .int)) [s0, s1, .va (eI a), .va (li (tu .int) []), s4, s5] = some (.nx [s0, s1, .va (eI a), .va (li (tu .int) (grow rows a)), s4', s5]) := by
  have := forL_all (e := tu PyData.int) (tg := .nm 4) (b := B_duties_in) (fun done r => ∃ s4', r = [s0, s1, .va (eI a), .va (li (tu .int) (grow done a)), s4', s5]) rows [] [s0, s1, .va (eI a), .va (li (tu .int) []), s4, s5] ⟨s4, rfl⟩ ?_
  · obtain ⟨r', h1, s4', rfl⟩ := this
    exact ⟨s4', h1⟩
  · rintro done x rest r hd ⟨s4', rfl⟩
    have hd' : rows = done ++ x :: rest := hd
    have hx : x.length ≤ 1000 := hr x (by rw [hd']; simp)
    refine ⟨_, _, rfl, .inl ?_, .va (eI x), rfl⟩
    have hc := comp_ev (e := PyData.int) (f := tu PyData.int) (own := [5]) (it := seqI (vE 2)) (tg := .nm 5) (ts := (trT (opE ninD (vE 5) (cutE (vE 4) (some (unE negD (kE (.int 1)))) none)))) (el := opE addD (vE 4) (tupE [(vE 5)])) (r := [s0, s1, .va (eI a), .va (li (tu .int) (grow done a)), .va (eI x), s5]) (xs := a)
      (fun w => !decide (x.getLast? = some w)) (fun w => x ++ [w]) (by simp) (by omega) (fun w hw => ⟨_, rfl, by simp [mem_last], fun _ => by simp [add_one x w (by omega)]⟩)
    have hl := lst_ev hc
    have hg := grow_len done a
    have hdl : done.length ≤ 1000000 := by rw [hd', List.length_append] at hn; omega
    have h3 : (grow done a).length ≤ 3000000 := Nat.le_trans hg (Nat.mul_le_mul hdl ha)
    have h4 : ((a.filter fun w => !decide (x.getLast? = some w)).map fun w => x ++ [w]).length ≤ 3 := by
      rw [List.length_map]
      exact Nat.le_trans (List.length_filter_le _ _) ha
    have e : grow (done ++ [x]) a = grow done a ++ (a.filter fun w => !decide (x.getLast? = some w)).map fun w => x ++ [w] := by
      rw [grow_app]
      simp [grow]
    rw [e]
    refine (blk_nx (r1 := [s0, s1, .va (eI a), .va (li (tu .int) (grow done a ++ (a.filter fun w => !decide (x.getLast? = some w)).map fun w => x ++ [w])), .va (eI x), s5]) ?_).trans rfl
    show sAsg (.nm 3) (opE addD (vE 3) (lstI (compI [5] (seqI (vE 2)) (.nm 5) (trT (opE ninD (vE 5) (cutE (vE 4) (some (unE negD (kE (.int 1)))) none))) (opE addD (vE 4) (tupE [(vE 5)]))))) [s0, s1, .va (eI a), .va (li (tu .int) (grow done a)), .va (eI x), s5] = _
    rw [ev_sAsg, ev_op, hl]
    simp only [ev_v, List.getElem?_cons_zero, List.getElem?_cons_succ, Option.bind_some]
    rw [addD_li _ _ (by omega)]
    simp
/-- weeks of the law -/
structure Wf (ws : List (List Int)) : Prop extends Wk ws where
  s3 : ∀ a ∈ ws, a.length ≤ 3
  l5 : ws.length ≤ 5
theorem duties_len {ws : List (List Int)} (h : ∀ a ∈ ws, a.length ≤ 3) (rows : List (List Int)) : (ws.foldl grow rows).length ≤ rows.length * 3 ^ ws.length := by
  induction ws generalizing rows with
  | nil => simp
  | cons a r ih =>
    rw [List.foldl_cons]
    refine Nat.le_trans (ih (fun b hb => h b (List.mem_cons_of_mem _ hb)) _) ?_
    rw [List.length_cons, Nat.pow_succ', ← Nat.mul_assoc]
    exact Nat.mul_le_mul_right _ (Nat.le_trans (grow_len rows a) (Nat.mul_le_mul_left _ (h a List.mem_cons_self)))
theorem duties_row {ws : List (List Int)} {rows : List (List Int)} {n : Nat} (h : ∀ r ∈ rows, r.length = n) : ∀ r ∈ ws.foldl grow rows, r.length = n + ws.length := by
  induction ws generalizing rows n with
  | nil => exact h
  | cons a r ih =>
    intro x hx
    have := ih (grow_row h) x hx
    rw [this, List.length_cons]
    omega
theorem law_duties_eq (ws : List (List Int)) (h : Wf ws) : F__law_duties [eW ws] = some (li (tu .int) (duties ws)) := by
  have := forL_all (e := tu PyData.int) (tg := .nm 2) (b := blk [(sAsg (.nm 3) (lstE [])), (sFor (seqI (vE 1)) (.nm 4) B_duties_in), (sAsg (.nm 1) (vE 3))]) (fun done r => ∃ s2 s3 s4, r = [.va (eW ws), .va (li (tu .int) (duties done)), s2, s3, s4, .no]) ws [] [.va (eW ws), .va (li (tu .int) [[]]), .no, .no, .no, .no] ⟨_, _, _, rfl⟩ ?_
  · obtain ⟨r', q, s2, s3, s4, rfl⟩ := this
    refine run_def (r0 := [.va (eW ws), .no, .no, .no, .no, .no]) (z := .rt (li (tu .int) (duties ws))) rfl rfl ((blk_nx (r1 := [.va (eW ws), .va (li (tu .int) [[]]), .no, .no, .no, .no]) ?_).trans ((blk_nx ((for_ev (xs := ws.map (tu .int)) (by simp)).trans q)).trans (ret_ev (by simp))))
    simp [li, tu]
  · rintro done x rest r hd ⟨s2, s3, s4, rfl⟩
    have hd' : ws = done ++ x :: rest := hd
    have hx : x ∈ ws := by rw [hd']; simp
    have hs : ∀ a ∈ done, a.length ≤ 3 := fun a ha => h.s3 a (by rw [hd']; simp [ha])
    have hdl : done.length ≤ 5 := by
      have := h.l5
      rw [hd', List.length_append] at this
      omega
    have h1 : (duties done).length ≤ 1000000 := by
      refine Nat.le_trans (duties_len hs [[]]) ?_
      have : 3 ^ done.length ≤ 3 ^ 5 := Nat.pow_le_pow_right (by decide) hdl
      simp
      omega
    have h2 : ∀ r ∈ duties done, r.length ≤ 1000 := fun r hr => by
      have := duties_row (ws := done) (rows := [[]]) (n := 0) (by simp) r hr
      omega
    obtain ⟨s4', hi⟩ := duties_in x (h.s3 x hx) (duties done) h1 h2 (.va (eW ws)) (.va (li (tu .int) (duties done))) s4 .no
    have e : duties (done ++ [x]) = grow (duties done) x := by simp [duties]
    refine ⟨_, _, rfl, .inl ?_, .va (eI x), .va (li (tu .int) (grow (duties done) x)), s4', by rw [e]⟩
    refine (blk_nx (r1 := [.va (eW ws), .va (li (tu .int) (duties done)), .va (eI x), .va (li (tu .int) []), s4, .no]) rfl).trans ((blk_nx ((for_ev (xs := (duties done).map (tu .int)) (by simp)).trans hi)).trans ((blk_nx (by simp)).trans rfl))
end Dm.M
end

section
set_option Elab.async false
set_option linter.all false
set_option maxRecDepth 100000
set_option maxHeartbeats 1000000
/-! K93P: the plain facts: duties as paths, counts, the first one. -/
namespace Dm.M
open PySem PySem.W
def paths (l : Option Int) : List (List Int) → List (List Int)
  | [] => [[]]
  | a :: r => (a.filter fun w => !decide (l = some w)).flatMap fun w => (paths (some w) r).map (w :: ·)
theorem grow_paths : ∀ (ws rows : List (List Int)), ws.foldl grow rows = rows.flatMap fun row => (paths row.getLast? ws).map (row ++ ·)
  | [], rows => by simp [paths]
  | a :: r, rows => by
    rw [List.foldl_cons, grow_paths r (grow rows a)]
    unfold grow
    rw [List.flatMap_assoc]
    congr 1
    funext row
    simp only [paths, List.map_flatMap, List.flatMap_map, List.map_map]
    congr 1
    funext w
    simp only [List.getLast?_append, List.getLast?_singleton, Option.some_or]
    refine List.map_congr_left fun x _ => ?_
    simp
theorem duties_paths (ws : List (List Int)) : duties ws = paths none ws := by
  unfold duties
  rw [grow_paths]
  simp
theorem sum_len (f : Int → List (List Int)) : ∀ xs : List Int, (xs.map fun w => ((f w).length : Int)).sum = ((xs.flatMap f).length : Int)
  | [] => rfl
  | x :: xs => by
    rw [List.map_cons, List.sum_cons, sum_len f xs, List.flatMap_cons, List.length_append]
    omega
theorem cnt_paths : ∀ (r : List (List Int)) (a : List Int) (w : Int), cntW (a :: r) w = ((paths (some w) r).length : Int)
  | [], a, w => rfl
  | b :: r, a, w => by
    have e : cntW (a :: b :: r) w = ((b.filter fun o => !decide (o = w)).map (cntW (b :: r))).sum := rfl
    rw [e, List.map_congr_left (g := fun o => (((paths (some o) r).map (o :: ·)).length : Int)) (fun o _ => by rw [cnt_paths r b o, List.length_map]), sum_len]
    congr 2
    have : (b.filter fun o => !decide (o = w)) = b.filter fun o => !decide (some w = some o) := by
      congr 1
      funext o
      congr 1
      exact decide_eq_decide.mpr ⟨fun z => by rw [z], fun z => (Option.some.inj z).symm⟩
    rw [this, paths]
theorem number_paths (ws : List (List Int)) : (match ws with | [] => 1 | a :: r => (a.map (cntW (a :: r))).sum) = ((paths none ws).length : Int) := by
  cases ws with
  | nil => rfl
  | cons a r =>
    show (a.map (cntW (a :: r))).sum = _
    rw [List.map_congr_left (g := fun o => (((paths (some o) r).map (o :: ·)).length : Int)) (fun o _ => by rw [cnt_paths r a o, List.length_map]), sum_len, paths]
    have : (a.filter fun w => !decide ((none : Option Int) = some w)) = a := List.filter_eq_self.mpr (by simp)
    rw [this]
theorem head_flat (f : Int → List (List Int)) : ∀ xs : List Int, (xs.flatMap f).head? = match xs.filter fun w => !(f w).isEmpty with | [] => none | w :: _ => (f w).head?
  | [] => rfl
  | x :: xs => by
    rw [List.flatMap_cons, List.head?_append, List.filter_cons]
    cases hf : f x with
    | nil =>
      rw [head_flat f xs]
      simp
    | cons y ys => simp [hf]
theorem greedy_paths : ∀ (ws : List (List Int)) (l : Option Int), greedy l ws = (paths l ws).head?
  | [], l => rfl
  | a :: r, l => by
    rw [greedy, paths, head_flat, List.filter_filter]
    have e : (a.filter fun w => decide (cntW (a :: r) w > 0) && !decide (l = some w)) = a.filter fun w => (!((paths (some w) r).map (w :: ·)).isEmpty) && !decide (l = some w) := by
      congr 1
      funext w
      congr 1
      rw [cnt_paths]
      cases paths (some w) r <;> simp <;> omega
    rw [e]
    cases a.filter fun w => (!((paths (some w) r).map (w :: ·)).isEmpty) && !decide (l = some w) with
    | nil => rfl
    | cons w _ =>
      show (greedy (some w) r).map (w :: ·) = ((paths (some w) r).map (w :: ·)).head?
      rw [greedy_paths r (some w), List.head?_map]
end Dm.M
end

section
set_option Elab.async false
set_option linter.all false
set_option maxRecDepth 100000
set_option maxHeartbeats 1000000
/-! K93P2: what a row is, rows split at a week. -/
namespace Dm.M
open PySem PySem.W
inductive In2 : List Int → List (List Int) → Prop
  | nil : In2 [] []
  | cons {w : Int} {a t : List Int} {r : List (List Int)} : w ∈ a → In2 t r → In2 (w :: t) (a :: r)
def adjR : List Int → Bool
  | a :: b :: r => !decide (a = b) && adjR (b :: r)
  | _ => true
theorem In2.length : ∀ {t : List Int} {ws : List (List Int)}, In2 t ws → t.length = ws.length
  | _, _, .nil => rfl
  | _, _, .cons _ h => by rw [List.length_cons, List.length_cons, h.length]
theorem In2.app : ∀ {t u : List Int} {ws vs : List (List Int)}, In2 t ws → In2 u vs → In2 (t ++ u) (ws ++ vs)
  | _, _, _, _, .nil, k => k
  | _, _, _, _, .cons a h, k => .cons a (h.app k)
theorem In2.rev : ∀ {t : List Int} {ws : List (List Int)}, In2 t ws → In2 t.reverse ws.reverse
  | _, _, .nil => .nil
  | _, _, .cons a h => by
    rw [List.reverse_cons, List.reverse_cons]
    exact h.rev.app (.cons a .nil)
theorem In2.take : ∀ {t : List Int} {ws : List (List Int)} (n : Nat), In2 t ws → In2 (t.take n) (ws.take n)
  | _, _, 0, _ => by simpa using In2.nil
  | _, _, _ + 1, .nil => by simpa using In2.nil
  | _, _, n + 1, .cons a h => by
    rw [List.take_succ_cons, List.take_succ_cons]
    exact .cons a (h.take n)
theorem In2.drop : ∀ {t : List Int} {ws : List (List Int)} (n : Nat), In2 t ws → In2 (t.drop n) (ws.drop n)
  | _, _, 0, h => by simpa using h
  | _, _, _ + 1, .nil => by simpa using In2.nil
  | _, _, n + 1, .cons a h => by
    rw [List.drop_succ_cons, List.drop_succ_cons]
    exact h.drop n
theorem adjR_app : ∀ (x : List Int) (w : Int) (y : List Int), adjR (x ++ w :: y) = (adjR (x ++ [w]) && adjR (w :: y))
  | [], w, y => by simp [adjR]
  | [a], w, y => by simp [adjR]
  | a :: b :: x, w, y => by
    have := adjR_app (b :: x) w y
    simp only [List.cons_append, adjR] at this ⊢
    rw [this, Bool.and_assoc]
theorem adjR_rev : ∀ x : List Int, adjR x.reverse = adjR x
  | [] => rfl
  | [a] => rfl
  | a :: b :: x => by
    have ih := adjR_rev (b :: x)
    rw [List.reverse_cons] at ih
    rw [List.reverse_cons, List.reverse_cons, List.append_assoc]
    show adjR (x.reverse ++ b :: [a]) = _
    rw [adjR_app, ih]
    simp only [adjR, Bool.and_true]
    rw [Bool.and_comm]
    congr 2
    exact decide_eq_decide.mpr ⟨Eq.symm, Eq.symm⟩
theorem mem_paths : ∀ (ws : List (List Int)) (l : Option Int) (t : List Int), t ∈ paths l ws ↔ In2 t ws ∧ adjR (l.toList ++ t) = true
  | [], l, t => by
    simp only [paths, List.mem_singleton]
    constructor
    · rintro rfl
      refine ⟨.nil, ?_⟩
      cases l <;> rfl
    · rintro ⟨h, _⟩
      cases h
      rfl
  | a :: r, l, t => by
    simp only [paths, List.mem_flatMap, List.mem_filter, List.mem_map]
    constructor
    · rintro ⟨w, ⟨hw, hl⟩, u, hu, rfl⟩
      obtain ⟨h1, h2⟩ := (mem_paths r (some w) u).mp hu
      refine ⟨.cons hw h1, ?_⟩
      cases l with
      | none => exact h2
      | some z =>
        have hne : ¬ z = w := by simpa using hl
        simp only [Option.toList, List.cons_append, List.nil_append, adjR] at h2 ⊢
        simp [hne, h2]
    · rintro ⟨h, h2⟩
      cases h with
      | cons hw h1 =>
        rename_i w u
        refine ⟨w, ⟨hw, ?_⟩, u, (mem_paths r (some w) u).mpr ⟨h1, ?_⟩, rfl⟩
        · cases l with
          | none => rfl
          | some z =>
            simp only [Option.toList, List.cons_append, List.nil_append, adjR, Bool.and_eq_true] at h2
            simpa using h2.1
        · cases l with
          | none => exact h2
          | some z =>
            simp only [Option.toList, List.cons_append, List.nil_append, adjR, Bool.and_eq_true] at h2
            exact h2.2
/-- from week t on there is a way behind w -/
def BR (ws : List (List Int)) (t : Nat) (w : Int) : Bool := !(paths (some w) (ws.drop (t + 1))).isEmpty
/-- up to week t there is a way ahead of w -/
def FR (ws : List (List Int)) (t : Nat) (w : Int) : Bool := !(paths (some w) (ws.take t).reverse).isEmpty
theorem ne_mem {α : Type} {xs : List α} : (!xs.isEmpty) = true ↔ ∃ x, x ∈ xs := by
  cases xs with
  | nil => simp
  | cons x xs => simp
theorem col_iff (ws : List (List Int)) (t : Nat) (w : Int) (ht : t < ws.length) : (∃ row ∈ paths none ws, row[t]? = some w) ↔ w ∈ ws.getD t [] ∧ BR ws t w = true ∧ FR ws t w = true := by
  have hsplit : ws = ws.take t ++ ws.getD t [] :: ws.drop (t + 1) := by
    have e : ws.getD t [] = ws[t] := by simp [List.getD, List.getElem?_eq_getElem ht]
    rw [e, ← List.drop_eq_getElem_cons ht, List.take_append_drop]
  constructor
  · rintro ⟨row, hr, hw⟩
    obtain ⟨h1, h2⟩ := (mem_paths ws none row).mp hr
    have hlt : t < row.length := (List.getElem?_eq_some_iff.mp hw).1
    have hgw : row[t] = w := (List.getElem?_eq_some_iff.mp hw).2
    have er : row = row.take t ++ w :: row.drop (t + 1) := by
      rw [← hgw, ← List.drop_eq_getElem_cons hlt, List.take_append_drop]
    have h3 : adjR (row.take t ++ w :: row.drop (t + 1)) = true := by
      rw [← er]
      exact h2
    rw [adjR_app, Bool.and_eq_true] at h3
    have hd := h1.drop t
    rw [List.drop_eq_getElem_cons hlt, List.drop_eq_getElem_cons ht] at hd
    refine ⟨?_, ne_mem.mpr ⟨row.drop (t + 1), (mem_paths _ _ _).mpr ⟨h1.drop (t + 1), h3.2⟩⟩, ne_mem.mpr ⟨(row.take t).reverse, (mem_paths _ _ _).mpr ⟨(h1.take t).rev, ?_⟩⟩⟩
    · cases hd with
      | cons hm _ =>
        have e : ws.getD t [] = ws[t] := by simp [List.getD, List.getElem?_eq_getElem ht]
        rw [e, ← hgw]
        exact hm
    · rw [← adjR_rev]
      simpa using h3.1
  · rintro ⟨hw, hb, hf⟩
    obtain ⟨y, hy⟩ := ne_mem.mp hb
    obtain ⟨x, hx⟩ := ne_mem.mp hf
    obtain ⟨y1, y2⟩ := (mem_paths _ _ _).mp hy
    obtain ⟨x1, x2⟩ := (mem_paths _ _ _).mp hx
    have x3 := x1.rev
    rw [List.reverse_reverse] at x3
    have hl : x.reverse.length = t := by
      rw [x3.length, List.length_take]
      omega
    refine ⟨x.reverse ++ w :: y, (mem_paths _ _ _).mpr ⟨?_, ?_⟩, ?_⟩
    · rw [hsplit]
      exact x3.app (.cons hw y1)
    · show adjR (x.reverse ++ w :: y) = true
      rw [adjR_app, Bool.and_eq_true]
      refine ⟨?_, y2⟩
      rw [← adjR_rev]
      simpa using x2
    · rw [List.getElem?_append_right (by omega), hl, Nat.sub_self]
      rfl
theorem cnt_pos (a : List Int) (r : List (List Int)) (w : Int) : decide (cntW (a :: r) w > 0) = !(paths (some w) r).isEmpty := by
  rw [cnt_paths]
  cases paths (some w) r <;> simp
end Dm.M
end

section
set_option Elab.async false
set_option linter.all false
set_option maxRecDepth 100000
set_option maxHeartbeats 1000000
/-! K93P3: rows of ints in order; the free wardens are a column of the rows. -/
namespace Dm.M
open PySem PySem.W
/-- two strictly ascending rows with the same ints are the same -/
theorem asc_ext : ∀ {x y : List Int}, x.Pairwise (· < ·) → y.Pairwise (· < ·) → (∀ a, a ∈ x ↔ a ∈ y) → x = y
  | [], [], _, _, _ => rfl
  | [], b :: y, _, _, h => absurd ((h b).mpr List.mem_cons_self) (by simp)
  | a :: x, [], _, _, h => absurd ((h a).mp List.mem_cons_self) (by simp)
  | a :: x, b :: y, hx, hy, h => by
    have hx' := List.pairwise_cons.mp hx
    have hy' := List.pairwise_cons.mp hy
    have e : a = b := by
      rcases List.mem_cons.mp ((h a).mp List.mem_cons_self) with q | q
      · exact q
      · rcases List.mem_cons.mp ((h b).mpr List.mem_cons_self) with q' | q'
        · exact q'.symm
        · have h1 := hy'.1 a q
          have h2 := hx'.1 b q'
          omega
    subst e
    congr 1
    refine asc_ext hx'.2 hy'.2 fun c => ⟨fun q => ?_, fun q => ?_⟩
    · rcases List.mem_cons.mp ((h c).mp (List.mem_cons_of_mem _ q)) with z | z
      · subst z
        exact absurd (hx'.1 c q) (Int.lt_irrefl c)
      · exact z
    · rcases List.mem_cons.mp ((h c).mpr (List.mem_cons_of_mem _ q)) with z | z
      · subst z
        exact absurd (hy'.1 c q) (Int.lt_irrefl c)
      · exact z
theorem mem_dedupI (a : Int) : ∀ xs : List Int, a ∈ dedupI xs ↔ a ∈ xs
  | [] => Iff.rfl
  | x :: xs => by
    unfold dedupI
    split
    · rename_i h
      rw [mem_dedupI a xs]
      exact ⟨List.mem_cons_of_mem _, fun q => (List.mem_cons.mp q).elim (fun z => z ▸ h) id⟩
    · rw [List.mem_cons, List.mem_cons, mem_dedupI a xs]
theorem nodup_dedupI : ∀ xs : List Int, (dedupI xs).Nodup
  | [] => List.nodup_nil
  | x :: xs => by
    unfold dedupI
    split
    · exact nodup_dedupI xs
    · rename_i h
      exact List.nodup_cons.mpr ⟨fun q => h ((mem_dedupI x xs).mp q), nodup_dedupI xs⟩
theorem asc_sort {xs : List Int} (h : xs.Nodup) : (xs.mergeSort fun a b => decide (a ≤ b)).Pairwise (· < ·) := by
  have h1 : (xs.mergeSort fun a b => decide (a ≤ b)).Pairwise (fun a b => decide (a ≤ b) = true) := List.pairwise_mergeSort (fun a b c q1 q2 => by simp at q1 q2 ⊢; omega) (fun a b => by simp; omega) xs
  have h2 : (xs.mergeSort fun a b => decide (a ≤ b)).Nodup := (List.mergeSort_perm xs _).nodup_iff.mpr h
  refine (h1.and h2).imp fun ⟨q1, q2⟩ => ?_
  simp at q1
  omega
theorem mem_sort {xs : List Int} {a : Int} : a ∈ (xs.mergeSort fun a b => decide (a ≤ b)) ↔ a ∈ xs := (List.mergeSort_perm xs _).mem_iff
/-- the ints of ns, each once, in order: any row that ascends and has the same -/
theorem sortSet_eq {ns ys : List Int} (hn : ns.length < 4000) (hy : ys.Pairwise (· < ·)) (hl : ys.length < 64) (h : ∀ a, a ∈ ns ↔ a ∈ ys) : sortSetD (li .int ns) = some (li .int ys) := by
  have e : ((dedupI ns).mergeSort fun a b => decide (a ≤ b)) = ys := asc_ext (asc_sort (nodup_dedupI ns)) hy fun a => by rw [mem_sort, mem_dedupI, h]
  have hlen : (dedupI ns).length < 64 := by
    rw [← e, List.length_mergeSort] at hl
    exact hl
  unfold sortSetD li
  simp only [intsOf_map, decide_eq_true hn, decide_eq_true hlen, Bool.and_self, if_true, e]
theorem free_eq (ws : List (List Int)) (t : Nat) (ht : t < ws.length) : free ws t = (ws.getD t []).filter fun w => BR ws t w && FR ws t w := by
  unfold free
  have e1 : ws.drop t = ws[t] :: ws.drop (t + 1) := List.drop_eq_getElem_cons ht
  have e2 : (ws.take (t + 1)).reverse = ws[t] :: (ws.take t).reverse := by
    rw [List.take_succ, List.getElem?_eq_getElem ht]
    simp
  rw [e1, e2]
  congr 1
  funext w
  rw [cnt_pos, cnt_pos]
  rfl
theorem column (ws : List (List Int)) (h : Wk ws) (t : Nat) (ht : t < ws.length) (hr : (paths none ws).length < 4000) : sortSetD (li .int ((paths none ws).map fun row => row.getD t 0)) = some (li .int (free ws t)) := by
  have hm : ws.getD t [] ∈ ws := by
    simp [List.getD, List.getElem?_eq_getElem ht]
  refine sortSet_eq (by rw [List.length_map]; exact hr) ?_ ?_ fun a => ?_
  · exact (h.st _ hm).filter _
  · have := h.sh _ hm
    exact Nat.lt_of_le_of_lt (List.length_filter_le _ _) (by omega)
  · rw [free_eq ws t ht, List.mem_filter, Bool.and_eq_true, ← col_iff ws t a ht, List.mem_map]
    constructor
    · rintro ⟨row, hrow, e⟩
      refine ⟨row, hrow, ?_⟩
      have hlt : t < row.length := by
        rw [((mem_paths ws none row).mp hrow).1.length]
        exact ht
      rw [List.getElem?_eq_getElem hlt]
      rw [List.getD, List.getElem?_eq_getElem hlt] at e
      exact congrArg some e
    · rintro ⟨row, hrow, e⟩
      exact ⟨row, hrow, by rw [List.getD, e]; rfl⟩
end Dm.M
end

section
set_option Elab.async false
set_option linter.all false
set_option maxRecDepth 100000
set_option maxHeartbeats 1000000
/-! K93R: what is reached along links, in rounds. -/
namespace Dm.M
open PySem PySem.W
/-- one link gone -/
def stepL (K : List Int) (p : Int × Int) : List Int := if p.1 ∈ K then (if p.2 ∈ K then K else K ++ [p.2]) else K
def reach (ls : List (Int × Int)) : Nat → List Int → List Int
  | 0, K => K
  | n + 1, K => reach ls n (ls.foldl stepL K)
theorem stepL_sub (K : List Int) (p : Int × Int) : ∀ a ∈ K, a ∈ stepL K p := by
  intro a ha
  unfold stepL
  split
  · split
    · exact ha
    · exact List.mem_append_left _ ha
  · exact ha
theorem fold_sub : ∀ (ls : List (Int × Int)) (K : List Int), ∀ a ∈ K, a ∈ ls.foldl stepL K
  | [], K, a, h => h
  | p :: ls, K, a, h => fold_sub ls _ a (stepL_sub K p a h)
theorem fold_hit : ∀ (ls : List (Int × Int)) (K : List Int) (p : Int × Int), p ∈ ls → p.1 ∈ K → p.2 ∈ ls.foldl stepL K
  | q :: ls, K, p, h, hp => by
    rcases List.mem_cons.mp h with e | e
    · subst e
      refine fold_sub ls _ _ ?_
      unfold stepL
      rw [if_pos hp]
      split
      · assumption
      · simp
    · exact fold_hit ls _ p e (stepL_sub K q _ hp)
theorem stepL_ok {P : Int → Prop} {K : List Int} {p : Int × Int} (hK : ∀ a ∈ K, P a) (hp : P p.1 → P p.2) : ∀ a ∈ stepL K p, P a := by
  intro a ha
  unfold stepL at ha
  split at ha
  · split at ha
    · exact hK a ha
    · rename_i h1 _
      rcases List.mem_append.mp ha with z | z
      · exact hK a z
      · rw [List.mem_singleton.mp z]
        exact hp (hK _ h1)
  · exact hK a ha
theorem fold_ok {P : Int → Prop} : ∀ {ls : List (Int × Int)} {K : List Int}, (∀ a ∈ K, P a) → (∀ p ∈ ls, P p.1 → P p.2) → ∀ a ∈ ls.foldl stepL K, P a
  | [], K, hK, _ => hK
  | p :: ls, K, hK, hl => fold_ok (ls := ls) (K := stepL K p) (stepL_ok hK (hl p List.mem_cons_self)) fun q hq => hl q (List.mem_cons_of_mem _ hq)
theorem stepL_nodup {K : List Int} {p : Int × Int} (h : K.Nodup) : (stepL K p).Nodup := by
  unfold stepL
  split
  · split
    · exact h
    · rename_i h2
      rw [List.nodup_append]
      refine ⟨h, by simp, fun a ha b hb => ?_⟩
      rw [List.mem_singleton.mp hb]
      exact fun z => h2 (z ▸ ha)
  · exact h
theorem fold_nodup : ∀ {ls : List (Int × Int)} {K : List Int}, K.Nodup → (ls.foldl stepL K).Nodup
  | [], _, h => h
  | p :: ls, K, h => fold_nodup (ls := ls) (K := stepL K p) (stepL_nodup (p := p) h)
theorem reach_nodup {ls : List (Int × Int)} : ∀ {n : Nat} {K : List Int}, K.Nodup → (reach ls n K).Nodup
  | 0, _, h => h
  | n + 1, _, h => reach_nodup (n := n) (fold_nodup h)
/-- what is reached: P is closed, and whatever has P is a start or has a link from something of lesser rank -/
structure Clo (ls : List (Int × Int)) (starts : List Int) (P : Int → Prop) (rk : Int → Nat) : Prop where
  st : ∀ a ∈ starts, P a
  cl : ∀ p ∈ ls, P p.1 → P p.2
  fr : ∀ b, P b → b ∈ starts ∨ ∃ a, (a, b) ∈ ls ∧ P a ∧ rk a < rk b
theorem reach_iff {ls : List (Int × Int)} {starts : List Int} {P : Int → Prop} {rk : Int → Nat} (c : Clo ls starts P rk) : ∀ (n k : Nat) (K : List Int), (∀ a ∈ starts, a ∈ K) → (∀ a ∈ K, P a) → (∀ b, P b → rk b ≤ k → b ∈ K) →
    (∀ a ∈ reach ls n K, P a) ∧ ∀ b, P b → rk b ≤ k + n → b ∈ reach ls n K
  | 0, k, K, _, h2, h3 => ⟨h2, h3⟩
  | n + 1, k, K, h1, h2, h3 => by
    have := reach_iff c n (k + 1) (ls.foldl stepL K) (fun a ha => fold_sub _ _ _ (h1 a ha)) (fold_ok h2 c.cl) (fun b hb hk => by
      rcases c.fr b hb with z | ⟨a, ha, hpa, hlt⟩
      · exact fold_sub _ _ _ (h1 b z)
      · exact fold_hit ls K (a, b) ha (h3 a hpa (by omega)))
    have e : k + 1 + n = k + (n + 1) := by omega
    rw [e] at this
    exact this
/-! ### the law's own rounds -/
def newL (ls : List (Int × Int)) (K : List Int) : List Int := (ls.filter fun p => decide (p.1 ∈ K) && !decide (p.2 ∈ K)).map (·.2)
def addL (ls : List (Int × Int)) (K : List Int) : List Int := K ++ (dedupI (newL ls K)).mergeSort fun a b => decide (a ≤ b)
def aliveL (ls : List (Int × Int)) : Nat → List Int → List Int
  | 0, K => K
  | n + 1, K => aliveL ls n (addL ls K)
theorem mem_newL {ls : List (Int × Int)} {K : List Int} {b : Int} : b ∈ newL ls K ↔ b ∉ K ∧ ∃ a ∈ K, (a, b) ∈ ls := by
  unfold newL
  simp only [List.mem_map, List.mem_filter, Bool.and_eq_true, decide_eq_true_eq, Bool.not_eq_true', decide_eq_false_iff_not]
  constructor
  · rintro ⟨⟨x, y⟩, ⟨h1, h2, h3⟩, rfl⟩
    exact ⟨h3, x, h2, h1⟩
  · rintro ⟨h1, a, h2, h3⟩
    exact ⟨(a, b), ⟨h3, h2, h1⟩, rfl⟩
theorem mem_addL {ls : List (Int × Int)} {K : List Int} {b : Int} : b ∈ addL ls K ↔ b ∈ K ∨ ∃ a ∈ K, (a, b) ∈ ls := by
  unfold addL
  rw [List.mem_append, mem_sort, mem_dedupI, mem_newL]
  constructor
  · rintro (h | ⟨_, h⟩)
    · exact .inl h
    · exact .inr h
  · intro h
    by_cases hb : b ∈ K
    · exact .inl hb
    · exact .inr ⟨hb, h.resolve_left hb⟩
theorem addL_nodup {ls : List (Int × Int)} {K : List Int} (h : K.Nodup) : (addL ls K).Nodup := by
  unfold addL
  rw [List.nodup_append]
  refine ⟨h, (List.mergeSort_perm _ _).nodup_iff.mpr (nodup_dedupI _), fun a ha b hb e => ?_⟩
  rw [mem_sort, mem_dedupI, mem_newL] at hb
  exact hb.1 (e ▸ ha)
theorem aliveL_nodup {ls : List (Int × Int)} : ∀ {n : Nat} {K : List Int}, K.Nodup → (aliveL ls n K).Nodup
  | 0, _, h => h
  | n + 1, _, h => aliveL_nodup (n := n) (addL_nodup h)
theorem alive_iff {ls : List (Int × Int)} {starts : List Int} {P : Int → Prop} {rk : Int → Nat} (c : Clo ls starts P rk) : ∀ (n k : Nat) (K : List Int), (∀ a ∈ starts, a ∈ K) → (∀ a ∈ K, P a) → (∀ b, P b → rk b ≤ k → b ∈ K) →
    (∀ a ∈ aliveL ls n K, P a) ∧ ∀ b, P b → rk b ≤ k + n → b ∈ aliveL ls n K
  | 0, k, K, _, h2, h3 => ⟨h2, h3⟩
  | n + 1, k, K, h1, h2, h3 => by
    have := alive_iff c n (k + 1) (addL ls K) (fun a ha => mem_addL.mpr (.inl (h1 a ha))) (fun a ha => by
      rcases mem_addL.mp ha with z | ⟨x, hx, hl⟩
      · exact h2 a z
      · exact c.cl (x, a) hl (h2 x hx)) (fun b hb hk => by
      rcases c.fr b hb with z | ⟨a, ha, hpa, hlt⟩
      · exact mem_addL.mpr (.inl (h1 b z))
      · exact mem_addL.mpr (.inr ⟨a, h3 a hpa (by omega), ha⟩))
    have e : k + 1 + n = k + (n + 1) := by omega
    rw [e] at this
    exact this
theorem start0 {ls : List (Int × Int)} {starts : List Int} {P : Int → Prop} {rk : Int → Nat} (c : Clo ls starts P rk) : ∀ b, P b → rk b ≤ 0 → b ∈ starts := fun b hb hk => by
  rcases c.fr b hb with z | ⟨a, _, _, hlt⟩
  · exact z
  · omega
theorem mem_reach {ls : List (Int × Int)} {starts : List Int} {P : Int → Prop} {rk : Int → Nat} (c : Clo ls starts P rk) (n : Nat) (hn : ∀ b, P b → rk b ≤ n) (a : Int) : a ∈ reach ls n starts ↔ P a := by
  obtain ⟨h1, h2⟩ := reach_iff c n 0 starts (fun a h => h) c.st (start0 c)
  exact ⟨h1 a, fun h => h2 a h (by have := hn a h; omega)⟩
theorem mem_alive {ls : List (Int × Int)} {starts : List Int} {P : Int → Prop} {rk : Int → Nat} (c : Clo ls starts P rk) (n : Nat) (hn : ∀ b, P b → rk b ≤ n) (a : Int) : a ∈ aliveL ls n starts ↔ P a := by
  obtain ⟨h1, h2⟩ := alive_iff c n 0 starts (fun a h => h) c.st (start0 c)
  exact ⟨h1 a, fun h => h2 a h (by have := hn a h; omega)⟩
end Dm.M
end

section
set_option Elab.async false
set_option linter.all false
set_option maxRecDepth 100000
set_option maxHeartbeats 1000000
/-! K93E: the defs about cells. -/
namespace Dm.M
open PySem PySem.W
abbrev eL : List (Int × Int) → D := tu (pr .int .int)
def tt : Int → D := fun _ => .bool true
theorem stepL_len (K : List Int) (p : Int × Int) : (stepL K p).length ≤ K.length + 1 := by
  unfold stepL
  split
  · split
    · omega
    · simp
  · omega
theorem fold_len : ∀ (ls : List (Int × Int)) (K : List Int), (ls.foldl stepL K).length ≤ K.length + ls.length
  | [], K => by simp
  | p :: ls, K => by
    have h1 := fold_len ls (stepL K p)
    have h2 := stepL_len K p
    simp only [List.foldl_cons, List.length_cons]
    omega
theorem reach_succ (ls : List (Int × Int)) : ∀ (n : Nat) (K : List Int), reach ls (n + 1) K = (reach ls n K).foldl (fun K _ => K) (ls.foldl stepL (reach ls n K))
  | 0, K => by
    have : ∀ (xs : List Int) (a : List Int), xs.foldl (fun K _ => K) a = a := fun xs => by induction xs with
      | nil => intro a; rfl
      | cons x xs ih => intro a; exact ih a
    rw [this]
    rfl
  | n + 1, K => by
    show reach ls (n + 1) (ls.foldl stepL K) = _
    rw [reach_succ ls n]
    rfl
theorem foldl_skip (xs : List Int) (a : List Int) : xs.foldl (fun (K : List Int) _ => K) a = a := by
  induction xs with
  | nil => rfl
  | cons x xs ih => exact ih
theorem reach_snoc (ls : List (Int × Int)) (n : Nat) (K : List Int) : reach ls (n + 1) K = ls.foldl stepL (reach ls n K) := by rw [reach_succ, foldl_skip]
theorem put_tt (K : List Int) (p : Int × Int) (h : p.1 ∈ K) : putD (dI tt K) (.int p.2) (.bool true) = dI tt (stepL K p) := by
  rw [putD_dI]
  unfold stepL
  rw [if_pos h]
  exact dI_congr fun k _ => by simp [tt]
def B_round : S := blk [(sIf (trT (opE inD (vE 5) (bE 3))) (blk [(sPut 3 (vE 6) (kE (.bool true)))]) (blk []))]
theorem round_in (ls : List (Int × Int)) (K : List Int) (hb : K.length + ls.length ≤ 1000000) (s0 s1 s2 s4 s5 s6 s7 : Slot) :
    ∃ s5' s6', forL (.tp [.nm 5, .nm 6]) B_round (ls.map (pr .int .int)) [s0, s1, s2, .ow (.dict (dI tt K)), s4, s5, s6, s7] = some (.nx [s0, s1, s2, .ow (.dict (dI tt (ls.foldl stepL K))), s4, s5', s6', s7]) := by
  have := forL_all (e := pr PyData.int PyData.int) (tg := .tp [.nm 5, .nm 6]) (b := B_round) (fun done r => ∃ s5' s6', r = [s0, s1, s2, .ow (.dict (dI tt (done.foldl stepL K))), s4, s5', s6', s7]) ls [] [s0, s1, s2, .ow (.dict (dI tt K)), s4, s5, s6, s7] ⟨s5, s6, rfl⟩ ?_
  · obtain ⟨r', h1, a, b, rfl⟩ := this
    exact ⟨a, b, h1⟩
  · rintro done x rest r hd ⟨s5', s6', rfl⟩
    have hd' : ls = done ++ x :: rest := hd
    have hl := fold_len done K
    have hok : lenOk ((done.foldl stepL K).length + 1) = true := lenOk_small (by
      rw [hd', List.length_append] at hb
      omega)
    generalize hK : done.foldl stepL K = K' at *
    refine ⟨_, _, ev_pr _ _ _ _ _ _, .inl ?_, .va (.int x.1), .va (.int x.2), by rw [List.foldl_append, hK]⟩
    have e : [x].foldl stepL K' = stepL K' x := rfl
    rw [e]
    by_cases h : x.1 ∈ K'
    · refine blk_nx ((if_t (by simp [inD_dI, h])).trans ?_)
      simp [fitsK_dI, len_dI, hok, put_tt K' x h]
    · have : stepL K' x = K' := by
        unfold stepL
        rw [if_neg h]
      rw [this]
      exact blk_nx ((if_f (by simp [inD_dI, h])).trans rfl)
theorem dcomp_in (r0 r1 r2 r3 r4 r5 r6 r7 : Slot) : ∀ (xs acc : List Int), (acc ++ xs).Nodup → acc.length + xs.length ≤ 1000000 → dcompL [r0, r1, r2, r3, r4, r5, r6, r7] (.nm 7) noT (vE 7) (kE (.bool true)) (dI tt acc) (xs.map .int) = some (dI tt (acc ++ xs))
  | [], acc, _, _ => by
    rw [List.append_nil]
    rfl
  | x :: xs, acc, hn, hl => by
    have hx : x ∉ acc := fun q => by
      rw [List.nodup_append] at hn
      exact hn.2.2 x q x List.mem_cons_self rfl
    have ih := dcomp_in r0 r1 r2 r3 r4 r5 r6 r7 xs (acc ++ [x]) (by rw [List.append_assoc]; exact hn) (by simp at hl ⊢; omega)
    have hok : lenOk (acc.length + 1) = true := lenOk_small (by simp at hl; omega)
    rw [List.append_assoc] at ih
    rw [List.map_cons, dcompL]
    have e : dI tt (acc ++ [x]) = putD (dI tt acc) (.int x) (.bool true) := by
      rw [putD_new tt acc x _ hx, dI_snoc]
      rfl
    rw [e] at ih
    simp [flatK, len_dI, hok]
    exact ih
theorem reached_eq (n : Nat) (ls : List (Int × Int)) (starts : List Int) (hn : n ≤ 1000) (hs : starts.Nodup) (hb : starts.length + n * ls.length ≤ 900000) (hl : ls.length ≤ 1000) : F_reached_from [.int n, eL ls, eI starts] = some (.dict (dI tt (reach ls n starts))) := by
  have hlen : ∀ k, (reach ls k starts).length ≤ starts.length + k * ls.length := fun k => by
    induction k with
    | zero => simp [reach]
    | succ k ih =>
      rw [reach_snoc, Nat.succ_mul]
      have := fold_len ls (reach ls k starts)
      omega
  have := forL_all (e := fun i : Nat => PyData.int (i : Int)) (tg := .nm 4) (b := blk [(sFor (seqI (vE 1)) (.tp [(.nm 5), (.nm 6)]) B_round)])
    (fun done r => ∃ s4 s5 s6, r = [.va (.int n), .va (eL ls), .va (eI starts), .ow (.dict (dI tt (reach ls done.length starts))), s4, s5, s6, .no]) (List.range n) [] [.va (.int n), .va (eL ls), .va (eI starts), .ow (.dict (dI tt starts)), .no, .no, .no, .no] ⟨_, _, _, rfl⟩ ?_
  · obtain ⟨r', q, s4, s5, s6, rfl⟩ := this
    have hd := dcomp_in (.va (.int n)) (.va (eL ls)) (.va (eI starts)) .no .no .no .no .no starts [] hs (by simp; omega)
    have hr : rgI (kE (.int 0)) (vE 0) [.va (.int n), .va (eL ls), .va (eI starts), .ow (.dict (dI tt starts)), .no, .no, .no, .no] = some ((List.range n).map fun n : Nat => .int (n : Int)) := by
      rw [rg_ev (x := 0) (y := (n : Int)) (by simp) (by simp) (by omega) (by omega), rangeL_nat]
    have ed : dcompE [7] (seqI (vE 2)) (.nm 7) noT (vE 7) (kE (.bool true)) [.va (.int n), .va (eL ls), .va (eI starts), .no, .no, .no, .no, .no] = some (.dict (dI tt starts)) := by
      show (dcompL [.va (.int n), .va (eL ls), .va (eI starts), .no, .no, .no, .no, .no] (.nm 7) noT (vE 7) (kE (.bool true)) (dI tt []) (starts.map .int)).bind (fun z => some (PyData.dict z)) = _
      rw [hd]
      rfl
    have hlr : ([] ++ List.range n).length = n := by simp
    rw [hlr] at q
    refine run_def (r0 := [.va (.int n), .va (eL ls), .va (eI starts), .no, .no, .no, .no, .no]) (z := .rt (.dict (dI tt (reach ls n starts)))) rfl rfl ((blk_nx (r1 := [.va (.int n), .va (eL ls), .va (eI starts), .ow (.dict (dI tt starts)), .no, .no, .no, .no]) ?_).trans ((blk_nx ((for_ev hr).trans q)).trans (ret_ev rfl)))
    rw [ev_sOwn, ed]
    rfl
  · rintro done x rest r hd ⟨s4, s5, s6, rfl⟩
    have hdl : done.length ≤ n := by
      have := congrArg List.length hd
      simp at this
      omega
    have hkl : (reach ls done.length starts).length ≤ 900000 := by
      refine Nat.le_trans (hlen done.length) (Nat.le_trans ?_ hb)
      have := Nat.mul_le_mul_right ls.length hdl
      omega
    obtain ⟨s5', s6', hi⟩ := round_in ls (reach ls done.length starts) (by omega) (.va (.int n)) (.va (eL ls)) (.va (eI starts)) (.va (.int x)) s5 s6 .no
    refine ⟨_, _, rfl, .inl ?_, .va (.int x), s5', s6', by rw [List.length_append, List.length_singleton, reach_snoc]⟩
    exact (blk_nx ((for_ev (xs := ls.map (pr .int .int)) rfl).trans hi)).trans rfl
end Dm.M
end

section
set_option Elab.async false
set_option linter.all false
set_option maxRecDepth 100000
set_option maxHeartbeats 1000000
/-! K93E2: the cells that are alive. -/
namespace Dm.M
open PySem PySem.W
theorem nodup_len : ∀ {xs ys : List Int}, xs.Nodup → (∀ a ∈ xs, a ∈ ys) → xs.length ≤ ys.length
  | [], _, _, _ => Nat.zero_le _
  | x :: xs, ys, h, hs => by
    obtain ⟨h1, h2⟩ := List.nodup_cons.mp h
    have hx : x ∈ ys := hs x List.mem_cons_self
    have := nodup_len (xs := xs) (ys := ys.erase x) h2 fun a ha => (List.mem_erase_of_ne (fun e => h1 (by rw [← e]; exact ha))).mpr (hs a (List.mem_cons_of_mem _ ha))
    rw [List.length_erase_of_mem hx] at this
    have := List.length_pos_of_mem hx
    simp
    omega
theorem sortK_eq {K ys : List Int} (f : Int → D) (hn : K.Nodup) (hy : ys.Pairwise (· < ·)) (hl : ys.length < 64) (h : ∀ a, a ∈ K ↔ a ∈ ys) : sortKD (.dict (dI f K)) = some (li .int ys) := by
  have e : (K.mergeSort fun a b => decide (a ≤ b)) = ys := asc_ext (asc_sort hn) hy fun a => by rw [mem_sort, h]
  have hlen : K.length < 64 := by
    rw [← e, List.length_mergeSort] at hl
    exact hl
  unfold sortKD
  simp only [keys_dI, intsOf_map, decide_eq_true hlen, if_true, e]
  rfl
theorem sortL_ints (xs : List Int) (h : xs.length ≤ 16777216) : sortLD (li .int xs) = some (li .int (xs.mergeSort fun a b => decide (a ≤ b))) := by
  have h1 : sortOk (xs.map PyData.int) = true := by
    unfold sortOk
    simp only [List.all_map, List.all_eq_true]
    intro a _
    simp only [Function.comp_apply, Bool.and_eq_true, List.all_eq_true]
    exact ⟨fun b _ => rfl, rfl, rfl⟩
  have h2 : headT (xs.map PyData.int) = true := by
    unfold headT
    rw [Bool.or_eq_true]
    left
    simp only [List.all_map, List.all_eq_true]
    intro a _
    rfl
  have h3 : lenOk (xs.map PyData.int).length = true := lenOk_small (by rw [List.length_map]; exact h)
  have e : (xs.map PyData.int).mergeSort leB = (xs.mergeSort fun a b => decide (a ≤ b)).map .int := by
    refine (List.map_mergeSort (fun a _ b _ => ?_)).symm
    show decide (a ≤ b) = !dataLt (.int b) (.int a)
    rw [dataLt_int, not_lt_dec]
  show (sortL (xs.map PyData.int)).map PyData.list = _
  unfold sortL
  rw [h1, h2, h3, e]
  rfl
theorem sorted_eq {xs ys : List Int} (hx : xs.length ≤ 16777216) (hn : xs.Nodup) (hy : ys.Pairwise (· < ·)) (h : ∀ a, a ∈ xs ↔ a ∈ ys) : sortLD (li .int xs) = some (li .int ys) := by
  rw [sortL_ints xs hx, asc_ext (asc_sort hn) hy fun a => by rw [mem_sort, h]]
theorem alive_cells_eq {n : Nat} {ls : List (Int × Int)} {starts ys : List Int} (hn : n ≤ 1000) (hs : starts.Nodup) (hb : starts.length + n * ls.length ≤ 900000) (hl : ls.length ≤ 1000)
    (hy : ys.Pairwise (· < ·)) (hyl : ys.length < 64) (h : ∀ a, a ∈ reach ls n starts ↔ a ∈ ys) : F_alive_cells [.int n, eL ls, eI starts] = some (eI ys) := by
  refine run_def (r0 := [.va (.int n), .va (eL ls), .va (eI starts)]) (z := .rt (eI ys)) rfl rfl (ret_ev ?_)
  have e1 : callE F_reached_from [(vE 0), (vE 1), (vE 2)] [.va (.int n), .va (eL ls), .va (eI starts)] = some (.dict (dI tt (reach ls n starts))) := reached_eq n ls starts hn hs hb hl
  rw [ev_tupI, ev_seq, ev_un, e1, Option.bind_some, sortK_eq tt (reach_nodup hs) hy hyl h]
  rfl
theorem aliveL_snoc (ls : List (Int × Int)) : ∀ (n : Nat) (K : List Int), aliveL ls (n + 1) K = addL ls (aliveL ls n K)
  | 0, K => rfl
  | n + 1, K => by
    show aliveL ls (n + 1) (addL ls K) = _
    rw [aliveL_snoc ls n]
    rfl
theorem newL_len (ls : List (Int × Int)) (K : List Int) : (newL ls K).length ≤ ls.length := by
  unfold newL
  rw [List.length_map]
  exact List.length_filter_le _ _
theorem aliveL_in {ls : List (Int × Int)} {zs : List Int} (hls : ∀ p ∈ ls, p.2 ∈ zs) : ∀ (n : Nat) (K : List Int), (∀ a ∈ K, a ∈ zs) → ∀ a ∈ aliveL ls n K, a ∈ zs
  | 0, _, h => h
  | n + 1, K, h => aliveL_in hls n (addL ls K) fun a ha => by
    rcases mem_addL.mp ha with z | ⟨x, _, hx⟩
    · exact h a z
    · exact hls (x, a) hx
theorem law_alive_eq {d : D} {ls : List (Int × Int)} {starts ys zs : List Int} (hd0 : seqD d = some (ls.map (pr .int .int))) (hs : starts.Nodup) (hl : ls.length ≤ 3000) (hz : zs.length < 64) (h1 : ∀ p ∈ ls, p.2 ∈ zs) (h2 : ∀ a ∈ starts, a ∈ zs)
    (hy : ys.Pairwise (· < ·)) (h : ∀ a, a ∈ aliveL ls 9 starts ↔ a ∈ ys) : F__law_alive [d, eI starts] = some (eI ys) := by
  have := forL_all (e := fun i : Nat => PyData.int (i : Int)) (tg := .nm 3) (b := blk [(sAsg (.nm 2) (opE addD (vE 2) (unE sortSetD (lstI (compI [4, 5] (seqI (vE 0)) (.tp [(.nm 4), (.nm 5)]) (andT (trT (opE inD (vE 4) (vE 2))) (trT (opE ninD (vE 5) (vE 2)))) (vE 5))))))])
    (fun done r => ∃ s3, r = [.va d, .va (eI starts), .va (li .int (aliveL ls done.length starts)), s3, .no, .no]) (List.range 9) [] [.va d, .va (eI starts), .va (li .int starts), .no, .no, .no] ⟨_, rfl⟩ ?_
  · obtain ⟨r', q, s3, rfl⟩ := this
    have hr : rgI (kE (.int 0)) (kE (.int 9)) [.va d, .va (eI starts), .va (li .int starts), .no, .no, .no] = some ((List.range 9).map fun n : Nat => .int (n : Int)) := by
      rw [rg_ev (x := 0) (y := ((9 : Nat) : Int)) (by simp) (by simp) (by omega) (by omega), rangeL_nat]
    have hlr : ([] ++ List.range 9).length = 9 := rfl
    rw [hlr] at q
    have hnd := aliveL_nodup (ls := ls) (n := 9) hs
    have hlen : (aliveL ls 9 starts).length ≤ zs.length := nodup_len hnd (aliveL_in h1 9 starts h2)
    refine run_def (r0 := [.va d, .va (eI starts), .no, .no, .no, .no]) (z := .rt (eI ys)) rfl rfl ((blk_nx (r1 := [.va d, .va (eI starts), .va (li .int starts), .no, .no, .no]) rfl).trans ((blk_nx ((for_ev hr).trans q)).trans (ret_ev ?_)))
    rw [ev_tupI, ev_seq, ev_un]
    show ((Option.bind (some (li .int (aliveL ls 9 starts))) sortLD).bind seqD).bind _ = _
    rw [Option.bind_some, sorted_eq (by omega) hnd hy h]
    rfl
  · rintro done x rest r hd ⟨s3, rfl⟩
    generalize hK : aliveL ls done.length starts = K at *
    have hKz : ∀ a ∈ K, a ∈ zs := by
      rw [← hK]
      exact aliveL_in h1 _ starts h2
    have hKn : K.Nodup := by
      rw [← hK]
      exact aliveL_nodup hs
    have hKl := nodup_len hKn hKz
    have hdz : (dedupI (newL ls K)).length ≤ zs.length := nodup_len (nodup_dedupI _) fun a ha => by
      rw [mem_dedupI, mem_newL] at ha
      obtain ⟨_, x, _, hx⟩ := ha
      exact h1 (x, a) hx
    have hc := comp_ev (e := pr PyData.int PyData.int) (f := PyData.int) (own := [4, 5]) (it := seqI (vE 0)) (tg := .tp [(.nm 4), (.nm 5)]) (ts := (andT (trT (opE inD (vE 4) (vE 2))) (trT (opE ninD (vE 5) (vE 2))))) (el := vE 5) (r := [.va d, .va (eI starts), .va (li .int K), .va (.int x), .no, .no]) (xs := ls)
      (fun p => decide (p.1 ∈ K) && !decide (p.2 ∈ K)) (·.2) (by simp [hd0]) (by omega) (fun p hp => ⟨_, ev_pr _ _ _ _ _ _, by
        by_cases h : p.1 ∈ K <;> simp [h], fun _ => rfl⟩)
    have hll := lst_ev hc
    have hnew : sortSetD (li .int (newL ls K)) = some (li .int ((dedupI (newL ls K)).mergeSort fun a b => decide (a ≤ b))) := by
      have hn1 : (newL ls K).length < 4000 := Nat.lt_of_le_of_lt (newL_len ls K) (by omega)
      have hn2 : (dedupI (newL ls K)).length < 64 := by omega
      unfold sortSetD li
      simp only [intsOf_map, decide_eq_true hn1, decide_eq_true hn2, Bool.and_self, if_true]
    refine ⟨_, _, rfl, .inl ?_, .va (.int x), by rw [List.length_append, List.length_singleton, aliveL_snoc, hK]⟩
    refine (blk_nx (r1 := [.va d, .va (eI starts), .va (li .int (addL ls K)), .va (.int x), .no, .no]) ?_).trans rfl
    show sAsg _ _ [.va d, .va (eI starts), .va (li .int K), .va (.int x), .no, .no] = _
    rw [ev_sAsg, ev_op, ev_un, hll, Option.bind_some]
    show (Option.bind (some (li .int K)) fun x => (sortSetD (li .int (newL ls K))).bind fun y => addD x y).bind _ = _
    rw [hnew, Option.bind_some, Option.bind_some, addD_li _ _ (by rw [List.length_mergeSort]; omega)]
    rfl
end Dm.M
end

section
set_option Elab.async false
set_option linter.all false
set_option maxRecDepth 100000
set_option maxHeartbeats 1000000
/-! K93C: the cells of the weeks, what leads to them and from them. -/
namespace Dm.M
open PySem PySem.W
def cellsFrom (t : Nat) : List (List Int) → List (Int × Int)
  | [] => []
  | a :: r => (a.map fun w => ((t : Int), w)) ++ cellsFrom (t + 1) r
abbrev cells (ws : List (List Int)) : List (Int × Int) := cellsFrom 0 ws
theorem mem_cellsFrom : ∀ (ws : List (List Int)) (t : Nat) (c : Int × Int), c ∈ cellsFrom t ws ↔ ∃ k : Nat, k < ws.length ∧ c.1 = ((t + k : Nat) : Int) ∧ c.2 ∈ ws.getD k []
  | [], t, c => by simp [cellsFrom]
  | a :: r, t, c => by
    rw [cellsFrom, List.mem_append, mem_cellsFrom r (t + 1) c, List.mem_map]
    constructor
    · rintro (⟨w, hw, rfl⟩ | ⟨k, h1, h2, h3⟩)
      · exact ⟨0, by simp, by simp, hw⟩
      · exact ⟨k + 1, by simp; omega, by rw [h2]; congr 1; omega, h3⟩
    · rintro ⟨k, h1, h2, h3⟩
      cases k with
      | zero => exact .inl ⟨c.2, h3, Prod.ext h2.symm rfl⟩
      | succ k => exact .inr ⟨k, by simp at h1; omega, by rw [h2]; congr 1; omega, h3⟩
theorem cells_asc : ∀ (ws : List (List Int)) (t : Nat), (cellsFrom t ws).Pairwise (fun c d => c.1 ≤ d.1)
  | [], t => List.Pairwise.nil
  | a :: r, t => by
    rw [cellsFrom, List.pairwise_append]
    refine ⟨?_, cells_asc r (t + 1), ?_⟩
    · rw [List.pairwise_map]
      exact List.pairwise_of_forall fun _ _ => Int.le_refl _
    · intro c hc d hd
      obtain ⟨w, _, rfl⟩ := List.mem_map.mp hc
      obtain ⟨k, _, h2, _⟩ := (mem_cellsFrom r (t + 1) d).mp hd
      rw [h2]
      simp
      omega
theorem asc_idx {C : List (Int × Int)} (h : C.Pairwise (fun c d => c.1 ≤ d.1)) {i j : Nat} {c d : Int × Int} (hi : C[i]? = some c) (hj : C[j]? = some d) (hlt : c.1 < d.1) : i < j := by
  obtain ⟨h1, rfl⟩ := List.getElem?_eq_some_iff.mp hi
  obtain ⟨h2, rfl⟩ := List.getElem?_eq_some_iff.mp hj
  rcases Nat.lt_trichotomy i j with q | q | q
  · exact q
  · subst q
    exact absurd hlt (Int.lt_irrefl _)
  · have := List.pairwise_iff_getElem.mp h j i h2 h1 q
    omega
theorem FR_zero (ws : List (List Int)) (w : Int) : FR ws 0 w = true := by
  unfold FR
  rw [List.take_zero]
  rfl
theorem FR_succ (ws : List (List Int)) (t : Nat) (w : Int) (ht : t < ws.length) : FR ws (t + 1) w = true ↔ ∃ o ∈ ws.getD t [], o ≠ w ∧ FR ws t o = true := by
  have e : (ws.take (t + 1)).reverse = ws.getD t [] :: (ws.take t).reverse := by
    have e0 : ws.getD t [] = ws[t] := by simp [List.getD, List.getElem?_eq_getElem ht]
    rw [List.take_succ, List.getElem?_eq_getElem ht, e0]
    simp
  unfold FR
  rw [e, ne_mem]
  simp only [paths, List.mem_flatMap, List.mem_filter, List.mem_map]
  constructor
  · rintro ⟨x, o, ⟨h1, h2⟩, u, hu, rfl⟩
    exact ⟨o, h1, fun z => by simp [z] at h2, ne_mem.mpr ⟨u, hu⟩⟩
  · rintro ⟨o, h1, h2, h3⟩
    obtain ⟨u, hu⟩ := ne_mem.mp h3
    exact ⟨o :: u, o, ⟨h1, by simpa using fun z => h2 z.symm⟩, u, hu, rfl⟩
theorem BR_last (ws : List (List Int)) (t : Nat) (w : Int) (ht : t + 1 = ws.length) : BR ws t w = true := by
  unfold BR
  rw [ht, List.drop_length]
  rfl
theorem BR_succ (ws : List (List Int)) (t : Nat) (w : Int) (ht : t + 1 < ws.length) : BR ws t w = true ↔ ∃ o ∈ ws.getD (t + 1) [], w ≠ o ∧ BR ws (t + 1) o = true := by
  have e : ws.drop (t + 1) = ws.getD (t + 1) [] :: ws.drop (t + 1 + 1) := by
    have e0 : ws.getD (t + 1) [] = ws[t + 1] := by simp [List.getD, List.getElem?_eq_getElem ht]
    rw [e0, ← List.drop_eq_getElem_cons ht]
  unfold BR
  rw [e, ne_mem]
  simp only [paths, List.mem_flatMap, List.mem_filter, List.mem_map]
  constructor
  · rintro ⟨x, o, ⟨h1, h2⟩, u, hu, rfl⟩
    exact ⟨o, h1, fun z => by simp [z] at h2, ne_mem.mpr ⟨u, hu⟩⟩
  · rintro ⟨o, h1, h2, h3⟩
    obtain ⟨u, hu⟩ := ne_mem.mp h3
    exact ⟨o :: u, o, ⟨h1, by simpa using h2⟩, u, hu, rfl⟩
/-- the links: at to on, one week later, another warden -/
def isLink (C : List (Int × Int)) (i j : Nat) : Bool := match C[i]?, C[j]? with
  | some c, some d => decide (d.1 = c.1 + 1) && !decide (d.2 = c.2)
  | _, _ => false
def linksOf (C : List (Int × Int)) : List (Int × Int) := (List.range C.length).flatMap fun i => ((List.range C.length).filter fun j => isLink C i j).map fun j : Nat => ((i : Int), (j : Int))
theorem mem_links {C : List (Int × Int)} {p : Int × Int} : p ∈ linksOf C ↔ ∃ (i j : Nat) (c d : Int × Int), p = ((i : Int), (j : Int)) ∧ C[i]? = some c ∧ C[j]? = some d ∧ d.1 = c.1 + 1 ∧ d.2 ≠ c.2 := by
  unfold linksOf
  simp only [List.mem_flatMap, List.mem_range, List.mem_map, List.mem_filter]
  constructor
  · rintro ⟨i, hi, j, ⟨hj, hl⟩, rfl⟩
    unfold isLink at hl
    split at hl
    · rename_i c d h1 h2
      simp at hl
      exact ⟨i, j, c, d, rfl, h1, h2, hl.1, hl.2⟩
    · cases hl
  · rintro ⟨i, j, c, d, rfl, h1, h2, h3, h4⟩
    refine ⟨i, (List.getElem?_eq_some_iff.mp h1).1, j, ⟨(List.getElem?_eq_some_iff.mp h2).1, ?_⟩, rfl⟩
    unfold isLink
    rw [h1, h2]
    simp [h3, h4]
/-- the indexes of C at which q holds -/
def idx (C : List (Int × Int)) (q : Int × Int → Bool) : List Int := ((List.range C.length).filter fun i => match C[i]? with
  | some c => q c
  | none => false).map fun i : Nat => (i : Int)
theorem mem_idx {C : List (Int × Int)} {q : Int × Int → Bool} {a : Int} : a ∈ idx C q ↔ ∃ (i : Nat) (c : Int × Int), a = (i : Int) ∧ C[i]? = some c ∧ q c = true := by
  unfold idx
  simp only [List.mem_map, List.mem_filter, List.mem_range]
  constructor
  · rintro ⟨i, ⟨hi, h⟩, rfl⟩
    rw [List.getElem?_eq_getElem hi] at h
    exact ⟨i, _, rfl, List.getElem?_eq_getElem hi, h⟩
  · rintro ⟨i, c, rfl, h1, h2⟩
    exact ⟨i, ⟨(List.getElem?_eq_some_iff.mp h1).1, by rw [h1]; exact h2⟩, rfl⟩
theorem idx_asc (C : List (Int × Int)) (q : Int × Int → Bool) : (idx C q).Pairwise (· < ·) := by
  unfold idx
  rw [List.pairwise_map]
  refine List.Pairwise.filter _ ?_
  exact List.pairwise_lt_range.imp fun h => by omega
theorem idx_len (C : List (Int × Int)) (q : Int × Int → Bool) : (idx C q).length ≤ C.length := by
  unfold idx
  rw [List.length_map]
  exact Nat.le_trans (List.length_filter_le _ _) (by simp)
def qF (ws : List (List Int)) (c : Int × Int) : Bool := FR ws c.1.toNat c.2
def qB (ws : List (List Int)) (c : Int × Int) : Bool := BR ws c.1.toNat c.2
theorem cell_at {ws : List (List Int)} {i : Nat} {c : Int × Int} (h : (cells ws)[i]? = some c) : ∃ k : Nat, k < ws.length ∧ c.1 = (k : Int) ∧ c.2 ∈ ws.getD k [] := by
  have := (mem_cellsFrom ws 0 c).mp (List.mem_of_getElem? h)
  simpa using this
theorem at_cell {ws : List (List Int)} {k : Nat} {w : Int} (hk : k < ws.length) (hw : w ∈ ws.getD k []) : ∃ i : Nat, (cells ws)[i]? = some ((k : Int), w) := by
  have : ((k : Int), w) ∈ cells ws := (mem_cellsFrom ws 0 _).mpr ⟨k, hk, by simp, hw⟩
  exact List.getElem?_of_mem this
theorem clo_F (ws : List (List Int)) : Clo (linksOf (cells ws)) (idx (cells ws) fun c => decide (c.1 = 0)) (· ∈ idx (cells ws) (qF ws)) (fun a => a.toNat) where
  st := fun a ha => by
    obtain ⟨i, c, rfl, h1, h2⟩ := mem_idx.mp ha
    refine mem_idx.mpr ⟨i, c, rfl, h1, ?_⟩
    unfold qF
    rw [of_decide_eq_true h2]
    exact FR_zero ws c.2
  cl := fun p hp hq => by
    obtain ⟨i, j, c, d, rfl, h1, h2, h3, h4⟩ := mem_links.mp hp
    obtain ⟨i', c', e1, e2, e3⟩ := mem_idx.mp hq
    have ei : i = i' := Int.ofNat.inj e1
    subst ei
    rw [h1] at e2
    cases e2
    refine mem_idx.mpr ⟨j, d, rfl, h2, ?_⟩
    obtain ⟨k, k1, k2, k3⟩ := cell_at h1
    unfold qF at e3 ⊢
    have et : c.1.toNat = k := by omega
    have ed : d.1.toNat = k + 1 := by omega
    rw [et] at e3
    rw [ed]
    exact (FR_succ ws k d.2 k1).mpr ⟨c.2, k3, fun z => h4 z.symm, e3⟩
  fr := fun b hb => by
    obtain ⟨j, d, rfl, h2, hq⟩ := mem_idx.mp hb
    obtain ⟨k, k1, k2, k3⟩ := cell_at h2
    cases k with
    | zero => exact .inl (mem_idx.mpr ⟨j, d, rfl, h2, decide_eq_true k2⟩)
    | succ k =>
      unfold qF at hq
      have ed : d.1.toNat = k + 1 := by omega
      rw [ed] at hq
      obtain ⟨o, o1, o2, o3⟩ := (FR_succ ws k d.2 (by omega)).mp hq
      obtain ⟨i, hi⟩ := at_cell (by omega) o1
      have hlt : i < j := asc_idx (cells_asc ws 0) hi h2 (by simp; omega)
      refine .inr ⟨(i : Int), mem_links.mpr ⟨i, j, _, d, rfl, hi, h2, by simp; omega, fun z => o2 z.symm⟩, mem_idx.mpr ⟨i, _, rfl, hi, ?_⟩, by simpa using hlt⟩
      unfold qF
      simpa using o3
theorem clo_B (ws : List (List Int)) (bs : List (Int × Int)) (hbs : ∀ x y, (x, y) ∈ bs ↔ (y, x) ∈ linksOf (cells ws)) : Clo bs (idx (cells ws) fun c => decide (c.1 = (ws.length : Int) - 1)) (· ∈ idx (cells ws) (qB ws)) (fun a => (cells ws).length - a.toNat) where
  st := fun a ha => by
    obtain ⟨i, c, rfl, h1, h2⟩ := mem_idx.mp ha
    refine mem_idx.mpr ⟨i, c, rfl, h1, ?_⟩
    have h3 := of_decide_eq_true h2
    obtain ⟨k, k1, k2, k3⟩ := cell_at h1
    unfold qB
    exact BR_last ws _ c.2 (by omega)
  cl := fun p hp hq => by
    obtain ⟨x, y⟩ := p
    obtain ⟨i, j, c, d, e0, h1, h2, h3, h4⟩ := mem_links.mp ((hbs x y).mp hp)
    cases e0
    obtain ⟨j', d', e1, e2, e3⟩ := mem_idx.mp hq
    have ej : j = j' := Int.ofNat.inj e1
    subst ej
    rw [h2] at e2
    cases e2
    refine mem_idx.mpr ⟨i, c, rfl, h1, ?_⟩
    obtain ⟨k, k1, k2, k3⟩ := cell_at h1
    obtain ⟨m, m1, m2, m3⟩ := cell_at h2
    have hm : m = k + 1 := by omega
    subst hm
    unfold qB at e3 ⊢
    have et : c.1.toNat = k := by omega
    have ed : d.1.toNat = k + 1 := by omega
    rw [ed] at e3
    rw [et]
    exact (BR_succ ws k c.2 m1).mpr ⟨d.2, m3, fun z => h4 z.symm, e3⟩
  fr := fun b hb => by
    obtain ⟨i, c, rfl, h1, hq⟩ := mem_idx.mp hb
    obtain ⟨k, k1, k2, k3⟩ := cell_at h1
    by_cases hk : k + 1 = ws.length
    · exact .inl (mem_idx.mpr ⟨i, c, rfl, h1, decide_eq_true (by omega)⟩)
    · unfold qB at hq
      have et : c.1.toNat = k := by omega
      rw [et] at hq
      obtain ⟨o, o1, o2, o3⟩ := (BR_succ ws k c.2 (by omega)).mp hq
      obtain ⟨j, hj⟩ := at_cell (by omega) o1
      have hlt : i < j := asc_idx (cells_asc ws 0) h1 hj (by simp; omega)
      have hjl : j < (cells ws).length := (List.getElem?_eq_some_iff.mp hj).1
      refine .inr ⟨(j : Int), (hbs _ _).mpr (mem_links.mpr ⟨i, j, c, _, rfl, h1, hj, by simp; omega, fun z => o2 z.symm⟩), mem_idx.mpr ⟨j, _, rfl, hj, ?_⟩, by simp; omega⟩
      unfold qB
      simpa using o3
end Dm.M
end

section
set_option Elab.async false
set_option linter.all false
set_option maxRecDepth 100000
set_option maxHeartbeats 1000000
/-! K93D: _law_celled, step by step. -/
namespace Dm.M
open PySem PySem.W
abbrev eC : List (Int × Int) → D := li (pr .int .int)
theorem cells_snoc : ∀ (ws : List (List Int)) (t : Nat) (a : List Int), cellsFrom t (ws ++ [a]) = cellsFrom t ws ++ a.map fun w => (((t + ws.length : Nat) : Int), w)
  | [], t, a => by simp [cellsFrom]
  | b :: ws, t, a => by
    rw [List.cons_append, cellsFrom, cells_snoc ws (t + 1) a, cellsFrom, List.append_assoc]
    congr 3
    funext w
    congr 2
    simp
    omega
theorem cells_len {ws : List (List Int)} : ∀ {t : Nat}, (∀ a ∈ ws, a.length ≤ 60) → (cellsFrom t ws).length ≤ 60 * ws.length := by
  induction ws with
  | nil => intro t _; simp [cellsFrom]
  | cons a r ih =>
    intro t h
    have h1 := h a List.mem_cons_self
    have h2 := ih (t := t + 1) fun b hb => h b (List.mem_cons_of_mem _ hb)
    simp only [cellsFrom, List.length_append, List.length_map, List.length_cons]
    omega
def B_cells_in : S := blk [(sAsg (.nm 2) (opE addD (vE 2) (lstI (compI [12] (seqI (opE ixD (vE 0) (vE 3))) (.nm 12) noT (tupE [(vE 3), (vE 12)])))))]
theorem cells_in (ws : List (List Int)) (h : Wk ws) (s1 s3 s4 s5 s6 s7 s8 s9 s10 s11 s12 s13 s14 : Slot) :
    ∃ s3', forL (.nm 3) B_cells_in ((List.range ws.length).map fun n : Nat => .int (n : Int)) [.va (eW ws), s1, .va (eC []), s3, s4, s5, s6, s7, s8, s9, s10, s11, s12, s13, s14] = some (.nx [.va (eW ws), s1, .va (eC (cells ws)), s3', s4, s5, s6, s7, s8, s9, s10, s11, s12, s13, s14]) := by
  have := forL_all (e := fun n : Nat => PyData.int (n : Int)) (tg := .nm 3) (b := B_cells_in) (fun done r => ∃ s3', r = [.va (eW ws), s1, .va (eC (cells (ws.take done.length))), s3', s4, s5, s6, s7, s8, s9, s10, s11, s12, s13, s14]) (List.range ws.length) [] [.va (eW ws), s1, .va (eC []), s3, s4, s5, s6, s7, s8, s9, s10, s11, s12, s13, s14] ⟨s3, rfl⟩ ?_
  · obtain ⟨r', q, s3', rfl⟩ := this
    have e : ws.take ([] ++ List.range ws.length).length = ws := by simp
    rw [e] at q
    exact ⟨s3', q⟩
  · rintro done x rest r hd ⟨s3', rfl⟩
    have hd' : List.range ws.length = done ++ x :: rest := hd
    have hx : x = done.length := by
      have := congrArg (fun l => l[done.length]?) hd'
      simp at this
      have hlt : done.length < ws.length := by
        have := congrArg List.length hd'
        simp at this
        omega
      rw [List.getElem?_range hlt] at this
      exact (Option.some.inj this).symm
    have hlt : x < ws.length := by
      have := congrArg List.length hd'
      simp at this
      omega
    have hg : ws[x]? = some ws[x] := List.getElem?_eq_getElem hlt
    have ht : ws.take (done ++ [x]).length = ws.take done.length ++ [ws[x]] := by
      rw [List.length_append, List.length_singleton, ← hx, List.take_succ, hg]
      rfl
    have hl60 : ws[x].length ≤ 60 := h.sh _ (List.getElem_mem hlt)
    have hcl : (cells (ws.take done.length)).length ≤ 60 * (ws.take done.length).length := cells_len fun a ha => h.sh a (List.mem_of_mem_take ha)
    have htl : (ws.take done.length).length = x := by
      rw [List.length_take]
      omega
    have hln := h.ln
    generalize ws[x] = a at *
    have hc := comp_ev_all (e := PyData.int) (f := pr PyData.int PyData.int) (own := [12]) (it := seqI (opE ixD (vE 0) (vE 3))) (tg := .nm 12) (ts := noT) (el := tupE [(vE 3), (vE 12)]) (r := [.va (eW ws), s1, .va (eC (cells (ws.take done.length))), .va (.int x), s4, s5, s6, s7, s8, s9, s10, s11, s12, s13, s14]) (xs := a) (fun w => ((x : Int), w)) (by simp [hg]) (by omega) (fun w hw => ⟨_, rfl, rfl, rfl⟩)
    have hl := lst_ev hc
    refine ⟨_, _, rfl, .inl ?_, .va (.int x), rfl⟩
    have es : cells (ws.take (done ++ [x]).length) = cells (ws.take done.length) ++ a.map fun w => ((x : Int), w) := by
      show cellsFrom 0 (ws.take (done ++ [x]).length) = _
      rw [ht, cells_snoc, htl, Nat.zero_add]
    rw [es]
    refine (blk_nx (r1 := [.va (eW ws), s1, .va (eC (cells (ws.take done.length) ++ a.map fun w => ((x : Int), w))), .va (.int x), s4, s5, s6, s7, s8, s9, s10, s11, s12, s13, s14]) ?_).trans rfl
    show sAsg _ _ [.va (eW ws), s1, .va (eC (cells (ws.take done.length))), .va (.int x), s4, s5, s6, s7, s8, s9, s10, s11, s12, s13, s14] = _
    rw [ev_sAsg, ev_op, hl]
    simp only [ev_v, List.getElem?_cons_zero, List.getElem?_cons_succ, Option.bind_some]
    rw [addD_li _ _ (by rw [List.length_map]; omega)]
    rfl
def linksTo (C : List (Int × Int)) (m : Nat) : List (Int × Int) := (List.range m).flatMap fun i => ((List.range C.length).filter fun j => isLink C i j).map fun j : Nat => ((i : Int), (j : Int))
theorem linksTo_len (C : List (Int × Int)) (m : Nat) : (linksTo C m).length ≤ m * C.length := by
  induction m with
  | zero => simp [linksTo]
  | succ m ih =>
    unfold linksTo at ih ⊢
    rw [List.range_succ, List.flatMap_append, List.length_append, Nat.succ_mul]
    have : (((List.range C.length).filter fun j => isLink C m j).map fun j : Nat => ((m : Int), (j : Int))).length ≤ C.length := by
      rw [List.length_map]
      exact Nat.le_trans (List.length_filter_le _ _) (by simp)
    simp only [List.flatMap_cons, List.flatMap_nil, List.append_nil]
    omega
def B_links_in : S := blk [(sAsg (.nm 4) (opE addD (vE 4) (lstI (compI [13] (rgI (kE (.int 0)) (unE lenD (vE 2))) (.nm 13) (andT (trT (opE eqD (opE ixD (opE ixD (vE 2) (vE 13)) (kE (.int 0))) (opE addD (opE ixD (opE ixD (vE 2) (vE 3)) (kE (.int 0))) (kE (.int 1))))) (trT (opE neD (opE ixD (opE ixD (vE 2) (vE 13)) (kE (.int 1))) (opE ixD (opE ixD (vE 2) (vE 3)) (kE (.int 1)))))) (tupE [(vE 3), (vE 13)])))))]
@[simp] theorem ix_pr0 (c : Int × Int) : ixD (pr .int .int c) (.int 0) = some (.int c.1) := rfl
@[simp] theorem ix_pr1 (c : Int × Int) : ixD (pr .int .int c) (.int 1) = some (.int c.2) := rfl
theorem links_in (C : List (Int × Int)) (hC : C.length ≤ 1000) (s0 s1 s3 s5 s6 s7 s8 s9 s10 s11 s12 s13 s14 : Slot) :
    ∃ s3', forL (.nm 3) B_links_in ((List.range C.length).map fun n : Nat => .int (n : Int)) [s0, s1, .va (eC C), s3, .va (eC []), s5, s6, s7, s8, s9, s10, s11, s12, s13, s14] = some (.nx [s0, s1, .va (eC C), s3', .va (eC (linksOf C)), s5, s6, s7, s8, s9, s10, s11, s12, s13, s14]) := by
  have := forL_range (tg := .nm 3) (b := B_links_in) (fun k r => ∃ s3', r = [s0, s1, .va (eC C), s3', .va (eC (linksTo C k)), s5, s6, s7, s8, s9, s10, s11, s12, s13, s14]) C.length [s0, s1, .va (eC C), s3, .va (eC []), s5, s6, s7, s8, s9, s10, s11, s12, s13, s14] ⟨s3, rfl⟩ ?_
  · obtain ⟨r', q, s3', rfl⟩ := this
    exact ⟨s3', q⟩
  · rintro x r hlt ⟨s3', rfl⟩
    have hg : C[x]? = some C[x] := List.getElem?_eq_getElem hlt
    generalize C[x] = c at hg
    have hlen := linksTo_len C x
    have hlen2 : x * C.length ≤ 1000 * 1000 := Nat.mul_le_mul (by omega) hC
    have hr : rgI (kE (.int 0)) (unE lenD (vE 2)) [s0, s1, .va (eC C), .va (.int x), .va (eC (linksTo C x)), s5, s6, s7, s8, s9, s10, s11, s12, s13, s14] = some ((List.range C.length).map fun n : Nat => .int (n : Int)) := by
      rw [rg_ev (x := 0) (y := (C.length : Int)) (by simp) (by simp) (by omega) (by omega), rangeL_nat]
    have hc := comp_ev (e := fun n : Nat => PyData.int (n : Int)) (f := pr PyData.int PyData.int) (own := [13]) (it := rgI (kE (.int 0)) (unE lenD (vE 2))) (tg := .nm 13) (ts := (andT (trT (opE eqD (opE ixD (opE ixD (vE 2) (vE 13)) (kE (.int 0))) (opE addD (opE ixD (opE ixD (vE 2) (vE 3)) (kE (.int 0))) (kE (.int 1))))) (trT (opE neD (opE ixD (opE ixD (vE 2) (vE 13)) (kE (.int 1))) (opE ixD (opE ixD (vE 2) (vE 3)) (kE (.int 1))))))) (el := tupE [(vE 3), (vE 13)]) (r := [s0, s1, .va (eC C), .va (.int x), .va (eC (linksTo C x)), s5, s6, s7, s8, s9, s10, s11, s12, s13, s14]) (xs := List.range C.length)
      (fun j => isLink C x j) (fun j : Nat => ((x : Int), (j : Int))) hr (by simp; omega) (fun j hj => by
        have hj' : j < C.length := List.mem_range.mp hj
        have hgj : C[j]? = some C[j] := List.getElem?_eq_getElem hj'
        generalize C[j] = d at hgj
        refine ⟨_, rfl, ?_, fun _ => rfl⟩
        unfold isLink
        rw [hg, hgj]
        by_cases h1 : d.1 = c.1 + 1 <;> simp [hg, hgj, h1])
    have hl := lst_ev hc
    refine ⟨_, _, rfl, .inl ?_, .va (.int x), rfl⟩
    have es : linksTo C (x + 1) = linksTo C x ++ ((List.range C.length).filter fun j => isLink C x j).map fun j : Nat => ((x : Int), (j : Int)) := by
      unfold linksTo
      rw [List.range_succ, List.flatMap_append]
      simp
    have hl2 : (((List.range C.length).filter fun j => isLink C x j).map fun j : Nat => ((x : Int), (j : Int))).length ≤ C.length := by
      rw [List.length_map]
      exact Nat.le_trans (List.length_filter_le _ _) (by simp)
    rw [es]
    refine (blk_nx (r1 := [s0, s1, .va (eC C), .va (.int x), .va (eC (linksTo C x ++ ((List.range C.length).filter fun j => isLink C x j).map fun j : Nat => ((x : Int), (j : Int)))), s5, s6, s7, s8, s9, s10, s11, s12, s13, s14]) ?_).trans rfl
    show sAsg _ _ [s0, s1, .va (eC C), .va (.int x), .va (eC (linksTo C x)), s5, s6, s7, s8, s9, s10, s11, s12, s13, s14] = _
    rw [ev_sAsg, ev_op, hl]
    simp only [ev_v, List.getElem?_cons_zero, List.getElem?_cons_succ, Option.bind_some]
    rw [addD_li _ _ (by omega)]
    rfl
end Dm.M
end

section
set_option Elab.async false
set_option linter.all false
set_option maxRecDepth 100000
set_option maxHeartbeats 1000000
/-! K93D2: _law_celled, the rows of cells. -/
namespace Dm.M
open PySem PySem.W
theorem sortL_pairs (xs : List (Int × Int)) (h : xs.length ≤ 16777216) : ∃ ys, ys.Perm xs ∧ sortLD (li (pr .int .int) xs) = some (li (pr .int .int) ys) := by
  refine ⟨xs.mergeSort fun a b => leB (pr .int .int a) (pr .int .int b), List.mergeSort_perm _ _, ?_⟩
  have h1 : sortOk (xs.map (pr .int .int)) = true := by
    unfold sortOk
    simp only [List.all_map, List.all_eq_true]
    intro a _
    simp only [Function.comp_apply, Bool.and_eq_true, List.all_eq_true]
    exact ⟨fun b _ => rfl, rfl, plain_enc (e := pr PyData.int PyData.int) a⟩
  have h2 : headT (xs.map (pr .int .int)) = true := by
    unfold headT
    rw [Bool.or_eq_true]
    left
    simp only [List.all_map, List.all_eq_true]
    intro a _
    rfl
  have h3 : lenOk (xs.map (pr .int .int)).length = true := lenOk_small (by rw [List.length_map]; exact h)
  have e : (xs.map (pr .int .int)).mergeSort leB = (xs.mergeSort fun a b => leB (pr .int .int a) (pr .int .int b)).map (pr .int .int) := by
    refine (List.map_mergeSort (f := pr .int .int) (l := xs) (r := fun a b => leB (pr .int .int a) (pr .int .int b)) (s := leB) (fun a _ b _ => ?_)).symm
    rfl
  show (sortL (xs.map (pr .int .int))).map PyData.list = _
  unfold sortL
  rw [h1, h2, h3, e]
  rfl
/-- the rows that stand in the slots of _law_celled -/
abbrev env1 (d0 d1 : D) (C ls : List (Int × Int)) (s3 s5 s6 s7 s8 s9 s10 s11 s12 s13 s14 : Slot) : Env := [.va d0, .va d1, .va (eC C), s3, .va (eC ls), s5, s6, s7, s8, s9, s10, s11, s12, s13, s14]
theorem back_ev (d0 d1 : D) (C ls : List (Int × Int)) (hl : ls.length ≤ 1000000) (s3 s5 s6 s7 s8 s9 s10 s11 s12 s13 s14 : Slot) : ∃ bs : List (Int × Int), bs.length = ls.length ∧ (∀ x y, (x, y) ∈ bs ↔ (y, x) ∈ ls) ∧
    sAsg (.nm 5) (tupI (seqI (unE sortLD (lstI (compI [3, 13] (seqI (vE 4)) (.tp [(.nm 3), (.nm 13)]) noT (tupE [(vE 13), (vE 3)])))))) (env1 d0 d1 C ls s3 s5 s6 s7 s8 s9 s10 s11 s12 s13 s14) = some (.nx (env1 d0 d1 C ls s3 (.va (eL bs)) s6 s7 s8 s9 s10 s11 s12 s13 s14)) := by
  have hc := comp_ev_all (e := pr PyData.int PyData.int) (f := pr PyData.int PyData.int) (own := [3, 13]) (it := seqI (vE 4)) (tg := .tp [(.nm 3), (.nm 13)]) (ts := noT) (el := tupE [(vE 13), (vE 3)]) (r := env1 d0 d1 C ls s3 s5 s6 s7 s8 s9 s10 s11 s12 s13 s14) (xs := ls) (fun p => (p.2, p.1)) rfl (by omega) (fun p hp => ⟨_, ev_pr _ _ _ _ _ _, rfl, rfl⟩)
  have hll := lst_ev hc
  obtain ⟨bs, hp, hs⟩ := sortL_pairs (ls.map fun p => (p.2, p.1)) (by rw [List.length_map]; omega)
  refine ⟨bs, by rw [hp.length_eq, List.length_map], fun x y => ?_, ?_⟩
  · rw [hp.mem_iff, List.mem_map]
    constructor
    · rintro ⟨⟨a, b⟩, h, e⟩
      cases e
      exact h
    · intro h
      exact ⟨(y, x), h, rfl⟩
  · rw [ev_sAsg, ev_tupI, ev_seq, ev_un, hll, Option.bind_some, hs]
    rfl
theorem idx_ev (C : List (Int × Int)) (hC : C.length ≤ 1000) (q : Int × Int → Bool) (t : T) (r : Env) (r3 : Nat → Env) (h2 : r[2]? = some (.va (eC C))) (ha : ∀ k : Nat, asg (.nm 3) (.int (k : Int)) (wipeE r [3]) = some (r3 k)) (ht : ∀ (k : Nat) (c : Int × Int), C[k]? = some c → t (r3 k) = some (q c)) (hv : ∀ k : Nat, vE 3 (r3 k) = some (.int (k : Int))) :
    tupI (seqI (lstI (compI [3] (rgI (kE (.int 0)) (unE lenD (vE 2))) (.nm 3) t (vE 3)))) r = some (eI (idx C q)) := by
  have hr : rgI (kE (.int 0)) (unE lenD (vE 2)) r = some ((List.range C.length).map fun n : Nat => .int (n : Int)) := by
    rw [rg_ev (x := 0) (y := (C.length : Int)) (by simp) (by simp [h2]) (by omega) (by omega), rangeL_nat]
  have hc := comp_ev (e := fun n : Nat => PyData.int (n : Int)) (f := PyData.int) (own := [3]) (it := rgI (kE (.int 0)) (unE lenD (vE 2))) (tg := .nm 3) (ts := t) (el := vE 3) (r := r) (xs := List.range C.length)
    (fun j => match C[j]? with | some c => q c | none => false) (fun j : Nat => (j : Int)) hr (by simp; omega) (fun j hj => by
      have hj' : j < C.length := List.mem_range.mp hj
      have hgj : C[j]? = some C[j] := List.getElem?_eq_getElem hj'
      refine ⟨r3 j, ha j, ?_, fun _ => hv j⟩
      rw [ht j C[j] hgj, hgj])
  exact tupl_ev hc
end Dm.M
end

section
set_option Elab.async false
set_option linter.all false
set_option maxRecDepth 100000
set_option maxHeartbeats 1000000
/-! K93D3: cells that are alive from both ends are the free wardens. -/
namespace Dm.M
open PySem PySem.W
theorem range_get (C : List (Int × Int)) (d : Int × Int) : (List.range C.length).map (fun i => C.getD i d) = C := by
  refine List.ext_getElem (by simp) fun i h1 h2 => ?_
  rw [List.getElem_map, List.getElem_range]
  simp [List.getD, List.getElem?_eq_getElem h2]
theorem filter_get {β : Type} (C : List (Int × Int)) (q : Int × Int → Bool) (g : Int × Int → β) (d : Int × Int) : ((List.range C.length).filter fun i => match C[i]? with | some c => q c | none => false).map (fun i => g (C.getD i d)) = (C.filter q).map g := by
  have e : (C.filter q).map g = (((List.range C.length).map fun i => C.getD i d).filter q).map g := by rw [range_get]
  rw [e, List.filter_map, List.map_map]
  have e2 : ((List.range C.length).filter fun i => match C[i]? with | some c => q c | none => false) = (List.range C.length).filter (q ∘ fun i => C.getD i d) := by
    refine List.filter_congr fun i hi => ?_
    have hi' : i < C.length := List.mem_range.mp hi
    simp [List.getD, List.getElem?_eq_getElem hi']
  rw [e2]
  rfl
theorem level : ∀ (ws : List (List Int)) (t k : Nat) (q : Int → Bool), ((cellsFrom t ws).filter fun c => q c.2 && decide (c.1 = ((t + k : Nat) : Int))).map (·.2) = (ws.getD k []).filter q
  | [], t, k, q => by simp [cellsFrom]
  | a :: r, t, k, q => by
    rw [cellsFrom, List.filter_append, List.map_append]
    cases k with
    | zero =>
      have h1 : ((a.map fun w => ((t : Int), w)).filter fun c => q c.2 && decide (c.1 = ((t + 0 : Nat) : Int))).map (·.2) = a.filter q := by
        rw [List.filter_map, List.map_map]
        simp [Function.comp_def]
      have h2 : ((cellsFrom (t + 1) r).filter fun c => q c.2 && decide (c.1 = ((t + 0 : Nat) : Int))) = [] := by
        refine List.filter_eq_nil_iff.mpr fun c hc => ?_
        obtain ⟨m, _, e, _⟩ := (mem_cellsFrom r (t + 1) c).mp hc
        have : ¬ c.1 = ((t + 0 : Nat) : Int) := by omega
        simp only [this, decide_false, Bool.and_false]
        exact Bool.false_ne_true
      rw [h1, h2]
      simp
    | succ k =>
      have h1 : ((a.map fun w => ((t : Int), w)).filter fun c => q c.2 && decide (c.1 = ((t + (k + 1) : Nat) : Int))) = [] := by
        refine List.filter_eq_nil_iff.mpr fun c hc => ?_
        obtain ⟨w, _, rfl⟩ := List.mem_map.mp hc
        have : ¬ (t : Int) = ((t + (k + 1) : Nat) : Int) := by omega
        simp only [this, decide_false, Bool.and_false]
        exact Bool.false_ne_true
      have h2 := level r (t + 1) k q
      have e : t + 1 + k = t + (k + 1) := by omega
      rw [e] at h2
      rw [h1, h2]
      simp
/-- the wardens of the cells of a week that are alive from both ends -/
theorem both_eq (ws : List (List Int)) (t : Nat) (ht : t < ws.length) : ((idx (cells ws) (qF ws)).filter fun i => decide (i ∈ idx (cells ws) (qB ws)) && decide (((cells ws).getD i.toNat (0, 0)).1 = (t : Int))).map (fun i => ((cells ws).getD i.toNat (0, 0)).2) = free ws t := by
  rw [free_eq ws t ht]
  have h0 := level ws 0 t (fun w => BR ws t w && FR ws t w)
  rw [Nat.zero_add] at h0
  rw [← h0]
  have h1 := filter_get (cells ws) (fun c => (BR ws t c.2 && FR ws t c.2) && decide (c.1 = (t : Int))) (·.2) (0, 0)
  rw [← h1]
  have ei : idx (cells ws) (qF ws) = ((List.range (cells ws).length).filter fun i => match (cells ws)[i]? with | some c => qF ws c | none => false).map fun i : Nat => (i : Int) := rfl
  rw [ei, List.filter_map, List.filter_filter, List.map_map]
  have e : ((List.range (cells ws).length).filter fun i => (((fun i : Int => decide (i ∈ idx (cells ws) (qB ws)) && decide (((cells ws).getD i.toNat (0, 0)).1 = (t : Int))) ∘ fun i : Nat => (i : Int)) i) && (match (cells ws)[i]? with | some c => qF ws c | none => false)) = (List.range (cells ws).length).filter fun i => match (cells ws)[i]? with | some c => (BR ws t c.2 && FR ws t c.2) && decide (c.1 = (t : Int)) | none => false := by
    refine List.filter_congr fun i hi => ?_
    have hi' : i < (cells ws).length := List.mem_range.mp hi
    obtain ⟨c, hc⟩ : ∃ c, (cells ws)[i]? = some c := ⟨_, List.getElem?_eq_getElem hi'⟩
    have hm : ((i : Int) ∈ idx (cells ws) (qB ws)) ↔ qB ws c = true := by
      rw [mem_idx]
      constructor
      · rintro ⟨j, d, e1, e2, e3⟩
        have : i = j := Int.ofNat.inj e1
        subst this
        rw [hc] at e2
        cases e2
        exact e3
      · intro h
        exact ⟨i, c, rfl, hc, h⟩
    have hg : (cells ws).getD i (0, 0) = c := by simp [List.getD, hc]
    simp only [Function.comp_apply, Int.toNat_natCast, hg, hc, hm]
    by_cases h2 : c.1 = (t : Int)
    · have : c.1.toNat = t := by omega
      simp [h2, qF, qB]
    · simp [h2]
  rw [e]
  rfl
/-- a cell of the last week is alive exactly if there is a row -/
theorem last_alive (ws : List (List Int)) (h : 0 < ws.length) : (!((idx (cells ws) fun c => decide (c.1 = (ws.length : Int) - 1)).filter fun i => decide (i ∈ idx (cells ws) (qF ws))).isEmpty) = !(paths none ws).isEmpty := by
  rw [Bool.eq_iff_iff, ne_mem, ne_mem]
  constructor
  · rintro ⟨a, ha⟩
    obtain ⟨h1, h2⟩ := List.mem_filter.mp ha
    obtain ⟨i, c, rfl, hc, hq⟩ := mem_idx.mp h1
    obtain ⟨j, d, e, hd, hf⟩ := mem_idx.mp (of_decide_eq_true h2)
    have : i = j := Int.ofNat.inj e
    subst this
    rw [hc] at hd
    cases hd
    obtain ⟨k, k1, k2, k3⟩ := cell_at hc
    have hq' := of_decide_eq_true hq
    have hk : k + 1 = ws.length := by omega
    unfold qF at hf
    have et : c.1.toNat = k := by omega
    rw [et] at hf
    obtain ⟨row, hr, _⟩ := (col_iff ws k c.2 k1).mpr ⟨k3, BR_last ws k c.2 hk, hf⟩
    exact ⟨row, hr⟩
  · rintro ⟨row, hr⟩
    have hl := ((mem_paths ws none row).mp hr).1.length
    have hlt : ws.length - 1 < row.length := by omega
    obtain ⟨k1, _, k3⟩ := (col_iff ws (ws.length - 1) row[ws.length - 1] (by omega)).mp ⟨row, hr, List.getElem?_eq_getElem hlt⟩
    obtain ⟨i, hi⟩ := at_cell (by omega) k1
    refine ⟨(i : Int), List.mem_filter.mpr ⟨mem_idx.mpr ⟨i, _, rfl, hi, decide_eq_true ?_⟩, decide_eq_true (mem_idx.mpr ⟨i, _, rfl, hi, ?_⟩)⟩⟩
    · show ((ws.length - 1 : Nat) : Int) = _
      omega
    · unfold qF
      simpa using k3
end Dm.M
end

section
set_option Elab.async false
set_option linter.all false
set_option maxRecDepth 100000
set_option maxHeartbeats 1000000
/-! K93D4: _law_celled answers True. -/
namespace Dm.M
open PySem PySem.W
abbrev env2 (d0 d1 : D) (C ls bs : List (Int × Int)) (f l : List Int) (s3 s8 s9 s10 s11 s12 s13 s14 : Slot) : Env := [.va d0, .va d1, .va (eC C), s3, .va (eC ls), .va (eL bs), .va (eI f), .va (eI l), s8, s9, s10, s11, s12, s13, s14]
theorem idx_nodup (C : List (Int × Int)) (q : Int × Int → Bool) : (idx C q).Nodup := (idx_asc C q).imp fun h => Int.ne_of_lt h
theorem links_len (C : List (Int × Int)) : (linksOf C).length ≤ C.length * C.length := linksTo_len C C.length
theorem idx_rank {C : List (Int × Int)} {q : Int × Int → Bool} {a : Int} (h : a ∈ idx C q) : a.toNat < C.length ∧ 0 ≤ a := by
  obtain ⟨i, c, rfl, h1, _⟩ := mem_idx.mp h
  have := (List.getElem?_eq_some_iff.mp h1).1
  omega
theorem there_ev (ws : List (List Int)) (hn : (cells ws).length ≤ 8) (d0 d1 : D) (bs : List (Int × Int)) (l : List Int) (s3 s8 s9 s10 s11 s12 s13 s14 : Slot) :
    sAsg (.nm 8) (callE F_alive_cells [(unE lenD (vE 2)), (tupI (seqI (vE 4))), (vE 6)]) (env2 d0 d1 (cells ws) (linksOf (cells ws)) bs (idx (cells ws) fun c => decide (c.1 = 0)) l s3 s8 s9 s10 s11 s12 s13 s14)
      = some (.nx (env2 d0 d1 (cells ws) (linksOf (cells ws)) bs (idx (cells ws) fun c => decide (c.1 = 0)) l s3 (.va (eI (idx (cells ws) (qF ws)))) s9 s10 s11 s12 s13 s14)) := by
  have hll := links_len (cells ws)
  have hll2 : (cells ws).length * (cells ws).length ≤ 8 * 8 := Nat.mul_le_mul hn hn
  have hst := idx_len (cells ws) fun c => decide (c.1 = 0)
  have hid := idx_len (cells ws) (qF ws)
  have hm : (cells ws).length * (linksOf (cells ws)).length ≤ 8 * 64 := Nat.mul_le_mul hn (by omega)
  have := alive_cells_eq (n := (cells ws).length) (ls := linksOf (cells ws)) (starts := idx (cells ws) fun c => decide (c.1 = 0)) (ys := idx (cells ws) (qF ws)) (by omega) (idx_nodup _ _) (by omega) (by omega) (idx_asc _ _) (by omega)
    (mem_reach (clo_F ws) _ fun b hb => Nat.le_of_lt (idx_rank hb).1)
  have e : argsE [(unE lenD (vE 2)), (tupI (seqI (vE 4))), (vE 6)] (env2 d0 d1 (cells ws) (linksOf (cells ws)) bs (idx (cells ws) fun c => decide (c.1 = 0)) l s3 s8 s9 s10 s11 s12 s13 s14) = some [.int ((cells ws).length : Int), eL (linksOf (cells ws)), eI (idx (cells ws) fun c => decide (c.1 = 0))] := by
    simp
    rfl
  rw [ev_sAsg, ev_call, e, Option.bind_some, this]
  rfl
theorem here_ev (ws : List (List Int)) (hn : (cells ws).length ≤ 8) (d0 d1 : D) (bs : List (Int × Int)) (hbl : bs.length = (linksOf (cells ws)).length) (hbs : ∀ x y, (x, y) ∈ bs ↔ (y, x) ∈ linksOf (cells ws)) (f : List Int) (s3 s8 s9 s10 s11 s12 s13 s14 : Slot) :
    sAsg (.nm 9) (callE F_alive_cells [(unE lenD (vE 2)), (vE 5), (vE 7)]) (env2 d0 d1 (cells ws) (linksOf (cells ws)) bs f (idx (cells ws) fun c => decide (c.1 = (ws.length : Int) - 1)) s3 s8 s9 s10 s11 s12 s13 s14)
      = some (.nx (env2 d0 d1 (cells ws) (linksOf (cells ws)) bs f (idx (cells ws) fun c => decide (c.1 = (ws.length : Int) - 1)) s3 s8 (.va (eI (idx (cells ws) (qB ws)))) s10 s11 s12 s13 s14)) := by
  have hll := links_len (cells ws)
  have hll2 : (cells ws).length * (cells ws).length ≤ 8 * 8 := Nat.mul_le_mul hn hn
  have hst := idx_len (cells ws) fun c => decide (c.1 = (ws.length : Int) - 1)
  have hid := idx_len (cells ws) (qB ws)
  have hm : (cells ws).length * bs.length ≤ 8 * 64 := Nat.mul_le_mul hn (by omega)
  have := alive_cells_eq (n := (cells ws).length) (ls := bs) (starts := idx (cells ws) fun c => decide (c.1 = (ws.length : Int) - 1)) (ys := idx (cells ws) (qB ws)) (by omega) (idx_nodup _ _) (by omega) (by omega) (idx_asc _ _) (by omega)
    (mem_reach (clo_B ws bs hbs) _ fun b hb => by omega)
  have e : argsE [(unE lenD (vE 2)), (vE 5), (vE 7)] (env2 d0 d1 (cells ws) (linksOf (cells ws)) bs f (idx (cells ws) fun c => decide (c.1 = (ws.length : Int) - 1)) s3 s8 s9 s10 s11 s12 s13 s14) = some [.int ((cells ws).length : Int), eL bs, eI (idx (cells ws) fun c => decide (c.1 = (ws.length : Int) - 1))] := by
    simp
  rw [ev_sAsg, ev_call, e, Option.bind_some, this]
  rfl
theorem chk_there (ws : List (List Int)) (hn : (cells ws).length ≤ 8) : F__law_alive [eC (linksOf (cells ws)), eI (idx (cells ws) fun c => decide (c.1 = 0))] = some (eI (idx (cells ws) (qF ws))) := by
  have hll := links_len (cells ws)
  have hll2 : (cells ws).length * (cells ws).length ≤ 8 * 8 := Nat.mul_le_mul hn hn
  have hz := idx_len (cells ws) fun _ => true
  refine law_alive_eq (ls := linksOf (cells ws)) (zs := idx (cells ws) fun _ => true) rfl (idx_nodup _ _) (by omega) (by omega) (fun p hp => ?_) (fun a ha => ?_) (idx_asc _ _) (mem_alive (clo_F ws) 9 fun b hb => ?_)
  · obtain ⟨i, j, c, d, rfl, h1, h2, _⟩ := mem_links.mp hp
    exact mem_idx.mpr ⟨j, d, rfl, h2, rfl⟩
  · obtain ⟨i, c, rfl, h1, _⟩ := mem_idx.mp ha
    exact mem_idx.mpr ⟨i, c, rfl, h1, rfl⟩
  · have := (idx_rank hb).1
    show b.toNat ≤ 9
    omega
theorem chk_here (ws : List (List Int)) (hn : (cells ws).length ≤ 8) (bs : List (Int × Int)) (hbl : bs.length = (linksOf (cells ws)).length) (hbs : ∀ x y, (x, y) ∈ bs ↔ (y, x) ∈ linksOf (cells ws)) : F__law_alive [eL bs, eI (idx (cells ws) fun c => decide (c.1 = (ws.length : Int) - 1))] = some (eI (idx (cells ws) (qB ws))) := by
  have hll := links_len (cells ws)
  have hll2 : (cells ws).length * (cells ws).length ≤ 8 * 8 := Nat.mul_le_mul hn hn
  have hz := idx_len (cells ws) fun _ => true
  refine law_alive_eq (ls := bs) (zs := idx (cells ws) fun _ => true) rfl (idx_nodup _ _) (by omega) (by omega) (fun p hp => ?_) (fun a ha => ?_) (idx_asc _ _) (mem_alive (clo_B ws bs hbs) 9 fun b hb => ?_)
  · obtain ⟨x, y⟩ := p
    obtain ⟨i, j, c, d, e, h1, h2, _⟩ := mem_links.mp ((hbs x y).mp hp)
    cases e
    exact mem_idx.mpr ⟨i, c, rfl, h1, rfl⟩
  · obtain ⟨i, c, rfl, h1, _⟩ := mem_idx.mp ha
    exact mem_idx.mpr ⟨i, c, rfl, h1, rfl⟩
  · show (cells ws).length - b.toNat ≤ 9
    omega
end Dm.M
end

section
set_option Elab.async false
set_option linter.all false
set_option maxRecDepth 100000
set_option maxHeartbeats 1000000
/-! K93D5: _law_celled, the loop over the weeks. -/
namespace Dm.M
open PySem PySem.W
def B_week : S := blk [(sAsg (.nm 11) (tupI (seqI (lstI (compI [3] (seqI (vE 8)) (.nm 3) (andT (trT (opE inD (vE 3) (vE 9))) (trT (opE eqD (opE ixD (opE ixD (vE 2) (vE 3)) (kE (.int 0))) (vE 10)))) (opE ixD (opE ixD (vE 2) (vE 3)) (kE (.int 1)))))))), (sIf (orT (notT (trT (callE F__law_is [(callE F_free_wardens [(vE 0), (vE 10)]), (vE 11)]))) (trT (opE neD (lstI (seqI (vE 11))) (unE sortSetD (lstI (compI [14] (seqI (vE 1)) (.nm 14) noT (opE ixD (vE 14) (vE 10)))))))) (blk [(sRet (kE (.bool false)))]) (blk []))]
abbrev env3 (ws : List (List Int)) (ls bs : List (Int × Int)) (f l : List Int) (s3 s10 s11 s12 s13 s14 : Slot) : Env := [.va (eW ws), .va (li (tu .int) (paths none ws)), .va (eC (cells ws)), s3, .va (eC ls), .va (eL bs), .va (eI f), .va (eI l), .va (eI (idx (cells ws) (qF ws))), .va (eI (idx (cells ws) (qB ws))), s10, s11, s12, s13, s14]
theorem week_both (ws : List (List Int)) (t : Nat) (ht : t < ws.length) (hn : (cells ws).length ≤ 8) (ls bs : List (Int × Int)) (f l : List Int) (s3 s11 s12 s13 s14 : Slot) :
    sAsg (.nm 11) (tupI (seqI (lstI (compI [3] (seqI (vE 8)) (.nm 3) (andT (trT (opE inD (vE 3) (vE 9))) (trT (opE eqD (opE ixD (opE ixD (vE 2) (vE 3)) (kE (.int 0))) (vE 10)))) (opE ixD (opE ixD (vE 2) (vE 3)) (kE (.int 1))))))) (env3 ws ls bs f l s3 (.va (.int t)) s11 s12 s13 s14) = some (.nx (env3 ws ls bs f l s3 (.va (.int t)) (.va (eI (free ws t))) s12 s13 s14)) := by
  have hl := idx_len (cells ws) (qF ws)
  have hc := comp_ev (e := PyData.int) (f := PyData.int) (own := [3]) (it := seqI (vE 8)) (tg := .nm 3) (ts := (andT (trT (opE inD (vE 3) (vE 9))) (trT (opE eqD (opE ixD (opE ixD (vE 2) (vE 3)) (kE (.int 0))) (vE 10))))) (el := (opE ixD (opE ixD (vE 2) (vE 3)) (kE (.int 1)))) (r := env3 ws ls bs f l s3 (.va (.int t)) s11 s12 s13 s14) (xs := idx (cells ws) (qF ws))
    (fun i => decide (i ∈ idx (cells ws) (qB ws)) && decide (((cells ws).getD i.toNat (0, 0)).1 = (t : Int))) (fun i => ((cells ws).getD i.toNat (0, 0)).2) rfl (by omega) (fun i hi => by
      obtain ⟨k, c, rfl, h1, _⟩ := mem_idx.mp hi
      have hg : (cells ws).getD ((k : Int).toNat) (0, 0) = c := by simp [List.getD, h1]
      refine ⟨_, rfl, ?_, fun _ => ?_⟩
      · rw [hg]
        by_cases h : (k : Int) ∈ idx (cells ws) (qB ws) <;> simp [h, h1]
      · rw [hg]
        simp [h1])
  rw [ev_sAsg, tupl_ev hc, both_eq ws t ht]
  rfl
theorem week_ok (ws : List (List Int)) (h : Wk ws) (t : Nat) (ht : t < ws.length) (hr : (paths none ws).length < 4000) (ls bs : List (Int × Int)) (f l : List Int) (s3 s12 s13 s14 : Slot) :
    orT (notT (trT (callE F__law_is [(callE F_free_wardens [(vE 0), (vE 10)]), (vE 11)]))) (trT (opE neD (lstI (seqI (vE 11))) (unE sortSetD (lstI (compI [14] (seqI (vE 1)) (.nm 14) noT (opE ixD (vE 14) (vE 10))))))) (env3 ws ls bs f l s3 (.va (.int t)) (.va (eI (free ws t))) s12 s13 s14) = some false := by
  have hfl : (free ws t).length ≤ 1000 := by
    have hm : ws.getD t [] ∈ ws := by simp [List.getD, List.getElem?_eq_getElem ht]
    have := h.sh _ hm
    rw [free_eq ws t ht]
    exact Nat.le_trans (List.length_filter_le _ _) (by omega)
  have hf := free_wardens_eq ws h t ht
  have hi := is_row (free ws t) hfl
  have hc := comp_ev_all (e := tu PyData.int) (f := PyData.int) (own := [14]) (it := seqI (vE 1)) (tg := .nm 14) (ts := noT) (el := opE ixD (vE 14) (vE 10)) (r := env3 ws ls bs f l s3 (.va (.int t)) (.va (eI (free ws t))) s12 s13 s14) (xs := paths none ws) (fun row => row.getD t 0) rfl (by omega) (fun row hrow => by
    have hlen := ((mem_paths ws none row).mp hrow).1.length
    have hlt : t < row.length := by omega
    have hg : row[t]? = some row[t] := List.getElem?_eq_getElem hlt
    refine ⟨_, rfl, rfl, ?_⟩
    simp [List.getD, hg])
  have hl := lst_ev hc
  have hcol := column ws h t ht hr
  have hne : neD (li .int (free ws t)) (li .int (free ws t)) = some (.bool false) := by
    rw [neD_enc (e := li PyData.int)]
    simp
  have e1 : callE F__law_is [(callE F_free_wardens [(vE 0), (vE 10)]), (vE 11)] (env3 ws ls bs f l s3 (.va (.int t)) (.va (eI (free ws t))) s12 s13 s14) = some (.bool true) := by
    simp [hf, hi]
  have e2 : lstI (seqI (vE 11)) (env3 ws ls bs f l s3 (.va (.int t)) (.va (eI (free ws t))) s12 s13 s14) = some (li .int (free ws t)) := rfl
  rw [ev_or, ev_not, ev_tr, e1]
  simp only [Option.bind_some, truD_bool, Bool.not_true, Bool.false_eq_true, if_false]
  rw [ev_tr, ev_op, e2, ev_un, hl, Option.bind_some, Option.bind_some, hcol, Option.bind_some, hne]
  rfl
end Dm.M
end

section
set_option Elab.async false
set_option linter.all false
set_option maxRecDepth 100000
set_option maxHeartbeats 1000000
/-! K93D6: _law_celled answers True. -/
namespace Dm.M
open PySem PySem.W
theorem weeks_loop (ws : List (List Int)) (h : Wk ws) (hn : (cells ws).length ≤ 8) (hr : (paths none ws).length < 4000) (ls bs : List (Int × Int)) (f l : List Int) (s3 s10 s11 s12 s13 s14 : Slot) :
    ∃ r', forL (.nm 10) B_week ((List.range ws.length).map fun n : Nat => .int (n : Int)) (env3 ws ls bs f l s3 s10 s11 s12 s13 s14) = some (.nx r') := by
  obtain ⟨r', q, _⟩ := forL_range (tg := .nm 10) (b := B_week) (fun k r => ∃ s10' s11', r = env3 ws ls bs f l s3 s10' s11' s12 s13 s14) ws.length (env3 ws ls bs f l s3 s10 s11 s12 s13 s14) ⟨s10, s11, rfl⟩ (by
    rintro t r ht ⟨s10', s11', rfl⟩
    refine ⟨_, _, rfl, .inl ?_, .va (.int t), .va (eI (free ws t)), rfl⟩
    exact (blk_nx (week_both ws t ht hn ls bs f l s3 s11' s12 s13 s14)).trans ((blk_if (week_ok ws h t ht hr ls bs f l s3 s12 s13 s14)).trans rfl))
  exact ⟨r', q⟩
theorem celled_eq (ws : List (List Int)) (h : Wk ws) (hn : (cells ws).length ≤ 8) (hr : (paths none ws).length < 4000) : F__law_celled [eW ws, li (tu .int) (paths none ws)] = some (.bool true) := by
  have hw := h.ln
  obtain ⟨a3, q1⟩ := cells_in ws h (.va (li (tu .int) (paths none ws))) .no .no .no .no .no .no .no .no .no .no .no .no
  have hr1 : rgI (kE (.int 0)) (unE lenD (vE 0)) [.va (eW ws), .va (li (tu .int) (paths none ws)), .va (eC []), .no, .no, .no, .no, .no, .no, .no, .no, .no, .no, .no, .no] = some ((List.range ws.length).map fun n : Nat => .int (n : Int)) := by
    rw [rg_ev (x := 0) (y := (ws.length : Int)) (by simp) (by simp) (by omega) (by omega), rangeL_nat]
  obtain ⟨b3, q2⟩ := links_in (cells ws) (by omega) (.va (eW ws)) (.va (li (tu .int) (paths none ws))) a3 .no .no .no .no .no .no .no .no .no .no
  have hr2 : rgI (kE (.int 0)) (unE lenD (vE 2)) [.va (eW ws), .va (li (tu .int) (paths none ws)), .va (eC (cells ws)), a3, .va (eC []), .no, .no, .no, .no, .no, .no, .no, .no, .no, .no] = some ((List.range (cells ws).length).map fun n : Nat => .int (n : Int)) := by
    rw [rg_ev (x := 0) (y := ((cells ws).length : Int)) (by simp) (by simp) (by omega) (by omega), rangeL_nat]
  have hll := links_len (cells ws)
  have hll2 : (cells ws).length * (cells ws).length ≤ 8 * 8 := Nat.mul_le_mul hn hn
  obtain ⟨bs, hbl, hbs, q3⟩ := back_ev (eW ws) (li (tu .int) (paths none ws)) (cells ws) (linksOf (cells ws)) (by omega) b3 .no .no .no .no .no .no .no .no .no .no
  have q4 := idx_ev (cells ws) (by omega) (fun c => decide (c.1 = 0)) (trT (opE eqD (opE ixD (opE ixD (vE 2) (vE 3)) (kE (.int 0))) (kE (.int 0)))) (env1 (eW ws) (li (tu .int) (paths none ws)) (cells ws) (linksOf (cells ws)) b3 (.va (eL bs)) .no .no .no .no .no .no .no .no .no)
    (fun k => env1 (eW ws) (li (tu .int) (paths none ws)) (cells ws) (linksOf (cells ws)) (.va (.int k)) (.va (eL bs)) .no .no .no .no .no .no .no .no .no) rfl (fun k => rfl) (fun k c hc => by simp [hc]) (fun k => rfl)
  have q5 := idx_ev (cells ws) (by omega) (fun c => decide (c.1 = (ws.length : Int) - 1)) (trT (opE eqD (opE ixD (opE ixD (vE 2) (vE 3)) (kE (.int 0))) (opE subD (unE lenD (vE 0)) (kE (.int 1))))) (env1 (eW ws) (li (tu .int) (paths none ws)) (cells ws) (linksOf (cells ws)) b3 (.va (eL bs)) (.va (eI (idx (cells ws) fun c => decide (c.1 = 0)))) .no .no .no .no .no .no .no .no)
    (fun k => env1 (eW ws) (li (tu .int) (paths none ws)) (cells ws) (linksOf (cells ws)) (.va (.int k)) (.va (eL bs)) (.va (eI (idx (cells ws) fun c => decide (c.1 = 0)))) .no .no .no .no .no .no .no .no) rfl (fun k => rfl) (fun k c hc => by simp [hc]) (fun k => rfl)
  have q6 := there_ev ws hn (eW ws) (li (tu .int) (paths none ws)) bs (idx (cells ws) fun c => decide (c.1 = (ws.length : Int) - 1)) b3 .no .no .no .no .no .no .no
  have q7 := here_ev ws hn (eW ws) (li (tu .int) (paths none ws)) bs hbl hbs (idx (cells ws) fun c => decide (c.1 = 0)) b3 (.va (eI (idx (cells ws) (qF ws)))) .no .no .no .no .no .no
  have i1 := idx_len (cells ws) (qF ws)
  have i2 := idx_len (cells ws) (qB ws)
  have q8 : orT (notT (trT (callE F__law_is [(vE 8), (callE F__law_alive [(vE 4), (vE 6)])]))) (notT (trT (callE F__law_is [(vE 9), (callE F__law_alive [(vE 5), (vE 7)])]))) (env3 ws (linksOf (cells ws)) bs (idx (cells ws) fun c => decide (c.1 = 0)) (idx (cells ws) fun c => decide (c.1 = (ws.length : Int) - 1)) b3 .no .no .no .no .no) = some false := by
    have e1 := chk_there ws hn
    have e2 := chk_here ws hn bs hbl hbs
    have e3 := is_row (idx (cells ws) (qF ws)) (by omega)
    have e4 := is_row (idx (cells ws) (qB ws)) (by omega)
    simp [e1, e2, e3, e4]
  have q9 : andT (trT (opE gtD (unE lenD (vE 0)) (kE (.int 0)))) (trT (opE neD (opE gtD (unE lenD (lstI (compI [3] (seqI (vE 7)) (.nm 3) (trT (opE inD (vE 3) (vE 8))) (vE 3)))) (kE (.int 0))) (opE gtD (unE lenD (vE 1)) (kE (.int 0))))) (env3 ws (linksOf (cells ws)) bs (idx (cells ws) fun c => decide (c.1 = 0)) (idx (cells ws) fun c => decide (c.1 = (ws.length : Int) - 1)) b3 .no .no .no .no .no) = some false := by
    have i3 := idx_len (cells ws) fun c => decide (c.1 = (ws.length : Int) - 1)
    have hc := comp_ev (e := PyData.int) (f := PyData.int) (own := [3]) (it := seqI (vE 7)) (tg := .nm 3) (ts := trT (opE inD (vE 3) (vE 8))) (el := vE 3) (r := env3 ws (linksOf (cells ws)) bs (idx (cells ws) fun c => decide (c.1 = 0)) (idx (cells ws) fun c => decide (c.1 = (ws.length : Int) - 1)) b3 .no .no .no .no .no) (xs := idx (cells ws) fun c => decide (c.1 = (ws.length : Int) - 1))
      (fun i => decide (i ∈ idx (cells ws) (qF ws))) id rfl (by omega) (fun i hi => ⟨_, rfl, by simp, fun _ => rfl⟩)
    have hl := lst_ev hc
    rw [List.map_id] at hl
    by_cases h0 : 0 < ws.length
    · have hla := last_alive ws h0
      have hpos : ∀ {α : Type} (xs : List α), decide ((xs.length : Int) > 0) = !xs.isEmpty := fun xs => by cases xs <;> simp <;> omega
      have e0 : (ws.length : Int) > 0 := by omega
      rw [ev_and, ev_tr, ev_op, ev_un, ev_tr, ev_op, ev_op, ev_un, hl]
      simp only [ev_v, ev_k, ev_op, ev_un, List.getElem?_cons_zero, List.getElem?_cons_succ, Option.bind_some, lenD_tu, lenD_li, gtD_int, e0, decide_true, truD_bool, if_true, hpos, hla]
      rw [neD_enc (e := PyData.bool)]
      simp
    · have e0 : ¬ (ws.length : Int) > 0 := by omega
      rw [ev_and, ev_tr, ev_op, ev_un]
      simp only [ev_v, ev_k, List.getElem?_cons_zero, Option.bind_some, lenD_tu, gtD_int, e0, decide_false, truD_bool, Bool.false_eq_true, if_false]
  obtain ⟨r', q10⟩ := weeks_loop ws h hn hr (linksOf (cells ws)) bs (idx (cells ws) fun c => decide (c.1 = 0)) (idx (cells ws) fun c => decide (c.1 = (ws.length : Int) - 1)) b3 .no .no .no .no .no
  have hr3 : rgI (kE (.int 0)) (unE lenD (vE 0)) (env3 ws (linksOf (cells ws)) bs (idx (cells ws) fun c => decide (c.1 = 0)) (idx (cells ws) fun c => decide (c.1 = (ws.length : Int) - 1)) b3 .no .no .no .no .no) = some ((List.range ws.length).map fun n : Nat => .int (n : Int)) := by
    rw [rg_ev (x := 0) (y := (ws.length : Int)) (by simp) (by simp) (by omega) (by omega), rangeL_nat]
  refine run_def (r0 := [.va (eW ws), .va (li (tu .int) (paths none ws)), .no, .no, .no, .no, .no, .no, .no, .no, .no, .no, .no, .no, .no]) (z := .rt (.bool true)) rfl rfl ?_
  refine (blk_nx (r1 := [.va (eW ws), .va (li (tu .int) (paths none ws)), .va (eC []), .no, .no, .no, .no, .no, .no, .no, .no, .no, .no, .no, .no]) rfl).trans ?_
  refine (blk_nx ((for_ev hr1).trans q1)).trans ?_
  refine (blk_nx (r1 := [.va (eW ws), .va (li (tu .int) (paths none ws)), .va (eC (cells ws)), a3, .va (eC []), .no, .no, .no, .no, .no, .no, .no, .no, .no, .no]) rfl).trans ?_
  refine (blk_nx ((for_ev hr2).trans q2)).trans ?_
  refine (blk_nx q3).trans ?_
  refine (blk_nx (r1 := env1 (eW ws) (li (tu .int) (paths none ws)) (cells ws) (linksOf (cells ws)) b3 (.va (eL bs)) (.va (eI (idx (cells ws) fun c => decide (c.1 = 0)))) .no .no .no .no .no .no .no .no) (by rw [ev_sAsg, q4]; rfl)).trans ?_
  refine (blk_nx (r1 := env2 (eW ws) (li (tu .int) (paths none ws)) (cells ws) (linksOf (cells ws)) bs (idx (cells ws) fun c => decide (c.1 = 0)) (idx (cells ws) fun c => decide (c.1 = (ws.length : Int) - 1)) b3 .no .no .no .no .no .no .no) (by rw [ev_sAsg, q5]; rfl)).trans ?_
  refine (blk_nx q6).trans ((blk_nx q7).trans ((blk_if q8).trans ((blk_if q9).trans ((blk_nx ((for_ev hr3).trans q10)).trans (ret_ev (e := kE (.bool true)) (d := .bool true) (ev_k _ _))))))
end Dm.M
end

section
set_option Elab.async false
set_option linter.all false
set_option maxRecDepth 100000
set_option maxHeartbeats 1000000
/-! K93V: vises, the plain facts. -/
namespace Dm.M
open PySem PySem.W
/-- one week of two, the other of which is bound behind it -/
theorem bnd_cons {b c : Int} {w : List Int} {r : List (List Int)} (hn : w.Nodup) (h : bnd b (w :: r) = some c) : ∃ o, o ≠ b ∧ bnd o r = some c ∧ (w = [b, o] ∨ w = [o, b]) := by
  match w, hn, h with
  | [x, y], hn, k =>
    have hxy : x ≠ y := by simpa using hn
    simp only [bnd] at k
    by_cases e : y = b
    · rw [if_pos e] at k
      exact ⟨x, by rw [← e]; exact hxy, k, .inr (by rw [e])⟩
    · rw [if_neg e] at k
      by_cases e1 : x = b
      · rw [if_pos e1] at k
        exact ⟨y, e, k, .inl (by rw [e1])⟩
      · rw [if_neg e1] at k
        cases k
  | [], _, h => simp [bnd] at h
  | [_], _, h => simp [bnd] at h
  | _ :: _ :: _ :: _, _, h => simp [bnd] at h
theorem tight_none : ∀ (mid : List (List Int)) (b c : Int), (∀ w ∈ mid, w.Nodup) → bnd b mid = some c → paths (some b) (mid ++ [[c]]) = []
  | [], b, c, _, h => by
    simp [bnd] at h
    subst h
    simp [paths]
  | w :: r, b, c, hn, h => by
    obtain ⟨o, ho, h1, h2⟩ := bnd_cons (hn w List.mem_cons_self) h
    have ih := tight_none r o c (fun v hv => hn v (List.mem_cons_of_mem _ hv)) h1
    have ho' : ¬ b = o := fun z => ho z.symm
    rcases h2 with rfl | rfl <;> simp [paths, ho', ih]
theorem tight_one : ∀ (mid : List (List Int)) (b c : Int) (l : Option Int), (∀ w ∈ mid, w.Nodup) → bnd b mid = some c → l ≠ some b → (paths l (mid ++ [[c]])).length = 1
  | [], b, c, l, _, h, hl => by
    simp [bnd] at h
    subst h
    simp [paths, hl]
  | w :: r, b, c, l, hn, h, hl => by
    obtain ⟨o, ho, h1, h2⟩ := bnd_cons (hn w List.mem_cons_self) h
    have hr : ∀ v ∈ r, v.Nodup := fun v hv => hn v (List.mem_cons_of_mem _ hv)
    have ih := tight_one r o c (some b) hr h1 (fun z => ho (Option.some.inj z).symm)
    have i0 := tight_none r o c hr h1
    by_cases hlo : l = some o
    · rcases h2 with rfl | rfl <;> simp [paths, hl, hlo, ih, i0, ho]
    · rcases h2 with rfl | rfl <;> simp [paths, hl, hlo, ih, i0]
theorem chain_one : ∀ (mid : List (List Int)) (b c : Int), (∀ w ∈ mid, w.Nodup) → bnd b mid = some c → (paths (some b) mid).length = 1
  | [], b, c, _, h => rfl
  | w :: r, b, c, hn, h => by
    obtain ⟨o, ho, h1, h2⟩ := bnd_cons (hn w List.mem_cons_self) h
    have ih := chain_one r o c (fun v hv => hn v (List.mem_cons_of_mem _ hv)) h1
    have ho' : ¬ b = o := fun z => ho z.symm
    rcases h2 with rfl | rfl <;> simp [paths, ho', ih]
theorem bnd_snoc : ∀ (mid : List (List Int)) (b : Int) (w : List Int), bnd b (mid ++ [w]) = (bnd b mid).bind fun x => bnd x [w]
  | [], b, w => rfl
  | [x, y] :: r, b, w => by
    simp only [List.cons_append, bnd]
    split
    · exact bnd_snoc r x w
    · split
      · exact bnd_snoc r y w
      · rfl
  | [] :: r, b, w => rfl
  | [_] :: r, b, w => rfl
  | (_ :: _ :: _ :: _) :: r, b, w => rfl
theorem one_of {a : List Int} {b : Int} (hn : a.Nodup) (hb : b ∈ a) (h : ∀ o ∈ a, o = b) : a = [b] := by
  match a, hn, hb, h with
  | [], _, hb, _ => cases hb
  | [x], _, _, h => rw [h x (by simp)]
  | x :: y :: r, hn, _, h =>
    have h1 := h x (by simp)
    have h2 := h y (by simp)
    simp [h1, h2] at hn
theorem two_of {a : List Int} {b o : Int} (hn : a.Nodup) (hb : b ∈ a) (ho : o ∈ a) (hne : o ≠ b) (h : ∀ x ∈ a, x = b ∨ x = o) : a = [b, o] ∨ a = [o, b] := by
  match a, hn, hb, ho, h with
  | [], _, hb, _, _ => cases hb
  | [x], _, hb, ho, _ => exact absurd ((List.mem_singleton.mp ho).trans (List.mem_singleton.mp hb).symm) hne
  | [x, y], hn, hb, ho, h =>
    rcases h x (by simp) with rfl | rfl <;> rcases h y (by simp) with rfl | rfl
    · simp at hn
    · exact .inl rfl
    · exact .inr rfl
    · simp at hn
  | x :: y :: z :: r, hn, _, _, h =>
    rcases h x (by simp) with rfl | rfl <;> rcases h y (by simp) with rfl | rfl <;> rcases h z (by simp) with rfl | rfl <;> simp at hn
/-- the one who alone can be reached in week t is bound by a week of one -/
theorem bound_down (ws : List (List Int)) (h : Wk ws) : ∀ (t : Nat) (b : Int), t < ws.length → b ∈ ws.getD t [] → FR ws t b = true → (∀ o ∈ ws.getD t [], FR ws t o = true → o = b) → ∃ i b0, i ≤ t ∧ ws[i]? = some [b0] ∧ bnd b0 ((ws.drop (i + 1)).take (t - i)) = some b
  | 0, b, ht, hb, hf, ha => by
    have hm : ws.getD 0 [] ∈ ws := by simp [List.getD, List.getElem?_eq_getElem ht]
    have := one_of (h.nd hm) hb fun o ho => ha o ho (FR_zero ws o)
    refine ⟨0, b, Nat.le_refl _, ?_, by simp [bnd]⟩
    rw [List.getElem?_eq_getElem ht]
    simp [List.getD, List.getElem?_eq_getElem ht] at this
    rw [this]
  | t + 1, b, ht, hb, hf, ha => by
    have hm : ws.getD (t + 1) [] ∈ ws := by simp [List.getD, List.getElem?_eq_getElem ht]
    have hg : ws[t + 1]? = some (ws.getD (t + 1) []) := by simp [List.getD, List.getElem?_eq_getElem ht]
    by_cases h1 : ∀ o ∈ ws.getD (t + 1) [], o = b
    · refine ⟨t + 1, b, Nat.le_refl _, ?_, by simp [bnd]⟩
      rw [hg, one_of (h.nd hm) hb h1]
    · obtain ⟨o, ho⟩ := Classical.not_forall.mp h1
      obtain ⟨ho1, ho2⟩ := Classical.not_imp.mp ho
      have stuck : ∀ x ∈ ws.getD (t + 1) [], x ≠ b → ∀ f ∈ ws.getD t [], FR ws t f = true → f = x := fun x hx hxb f hfm hff => Classical.byContradiction fun hne => hxb (ha x hx ((FR_succ ws t x (by omega)).mpr ⟨f, hfm, hne, hff⟩))
      obtain ⟨f, f1, f2, f3⟩ := (FR_succ ws t b (by omega)).mp hf
      have fo := stuck o ho1 ho2 f f1 f3
      subst fo
      obtain ⟨i, b0, i1, i2, i3⟩ := bound_down ws h t f (by omega) f1 f3 fun x hx hxf => stuck f ho1 ho2 x hx hxf
      have htwo := two_of (h.nd hm) hb ho1 ho2 fun x hx => by
        by_cases hxb : x = b
        · exact .inl hxb
        · exact .inr (stuck x hx hxb f f1 f3).symm
      refine ⟨i, b0, by omega, i2, ?_⟩
      have et : t + 1 - i = (t - i) + 1 := by omega
      have eg : (ws.drop (i + 1))[t - i]? = some (ws.getD (t + 1) []) := by
        rw [List.getElem?_drop]
        have : i + 1 + (t - i) = t + 1 := by omega
        rw [this, hg]
      rw [et, List.take_succ, eg]
      show bnd b0 (_ ++ [_]) = _
      rw [bnd_snoc, i3]
      rcases htwo with e | e <;> rw [e] <;> simp [bnd, ho2]
      intro z
      exact absurd z.symm ho2
/-- no row and no empty week: there is a vise -/
theorem vise_of_none (ws : List (List Int)) (h : Wk ws) (he : ∀ a ∈ ws, a ≠ []) (hp : paths none ws = []) : ∃ i j, i < j ∧ j < ws.length ∧ isVise ws i j = true := by
  have key : ∀ t, t < ws.length → (∃ w ∈ ws.getD t [], FR ws t w = true) ∨ ∃ i j, i < j ∧ j < ws.length ∧ isVise ws i j = true := by
    intro t
    induction t with
    | zero =>
      intro ht
      have hm : ws.getD 0 [] ∈ ws := by simp [List.getD, List.getElem?_eq_getElem ht]
      cases hc : ws.getD 0 [] with
      | nil => exact absurd hc (he _ hm)
      | cons w r => exact .inl ⟨w, by simp, FR_zero ws w⟩
    | succ t ih =>
      intro ht
      rcases ih (by omega) with ⟨b, b1, b2⟩ | hv
      · by_cases hx : ∃ w ∈ ws.getD (t + 1) [], FR ws (t + 1) w = true
        · exact .inl hx
        · right
          have hm : ws.getD (t + 1) [] ∈ ws := by simp [List.getD, List.getElem?_eq_getElem ht]
          have hg : ws[t + 1]? = some (ws.getD (t + 1) []) := by simp [List.getD, List.getElem?_eq_getElem ht]
          have stuck : ∀ x ∈ ws.getD (t + 1) [], ∀ f ∈ ws.getD t [], FR ws t f = true → f = x := fun x hxm f hfm hff => Classical.byContradiction fun hne => hx ⟨x, hxm, (FR_succ ws t x (by omega)).mpr ⟨f, hfm, hne, hff⟩⟩
          cases hc : ws.getD (t + 1) [] with
          | nil => exact absurd hc (he _ hm)
          | cons x r =>
            have hxm : x ∈ ws.getD (t + 1) [] := by rw [hc]; simp
            have hbx := stuck x hxm b b1 b2
            subst hbx
            have hone := one_of (h.nd hm) hxm fun o ho => (stuck o ho b b1 b2).symm
            obtain ⟨i, b0, i1, i2, i3⟩ := bound_down ws h t b (by omega) b1 b2 fun o ho hof => stuck b hxm o ho hof
            refine ⟨i, t + 1, by omega, ht, ?_⟩
            unfold isVise
            have hne : ¬ i = t + 1 := by omega
            rw [if_neg hne, i2, hg, hone]
            have et : t + 1 - 1 - i = t - i := by omega
            simp only [et, i3]
            simp
      · exact .inr hv
  by_cases h0 : ws = []
  · subst h0
    simp [paths] at hp
  · have hl : 0 < ws.length := List.length_pos_iff.mpr h0
    rcases key (ws.length - 1) (by omega) with ⟨w, w1, w2⟩ | hv
    · obtain ⟨row, hr, _⟩ := (col_iff ws (ws.length - 1) w (by omega)).mpr ⟨w1, BR_last ws _ w (by omega), w2⟩
      rw [hp] at hr
      cases hr
    · exact hv
theorem adjR_tail {a : Int} {x : List Int} (h : adjR (a :: x) = true) : adjR x = true := by
  cases x with
  | nil => rfl
  | cons b r =>
    simp only [adjR, Bool.and_eq_true] at h
    exact h.2
theorem adjR_drop {x : List Int} (h : adjR x = true) : ∀ n, adjR (x.drop n) = true := by
  intro n
  induction n generalizing x with
  | zero => simpa using h
  | succ n ih =>
    cases x with
    | nil => simp [adjR]
    | cons a r =>
      rw [List.drop_succ_cons]
      exact ih (adjR_tail h)
theorem adjR_take {x : List Int} (h : adjR x = true) (n : Nat) : adjR (x.take n) = true := by
  have h1 : adjR x.reverse = true := by rw [adjR_rev]; exact h
  have h2 := adjR_drop h1 (x.length - n)
  rw [List.drop_reverse, adjR_rev] at h2
  by_cases hn : n ≤ x.length
  · have : x.length - (x.length - n) = n := by omega
    rw [this] at h2
    exact h2
  · rw [List.take_of_length_le (by omega)]
    exact h
/-- a row of the weeks has a row of each part of them -/
theorem paths_part {ws : List (List Int)} {row : List Int} (h : row ∈ paths none ws) (i n : Nat) : (row.drop i).take n ∈ paths none ((ws.drop i).take n) := by
  obtain ⟨h1, h2⟩ := (mem_paths _ _ _).mp h
  exact (mem_paths _ _ _).mpr ⟨(h1.drop i).take n, adjR_take (adjR_drop h2 i) n⟩
/-- the weeks of a vise -/
theorem vise_tight {ws : List (List Int)} (h : Wk ws) {i j : Nat} (hij : i < j) (hj : j < ws.length) (hv : isVise ws i j = true) : ∃ (b c : Int) (mid : List (List Int)), (ws.drop i).take (j + 1 - i) = [b] :: (mid ++ [[c]]) ∧ bnd b mid = some c ∧ ∀ w ∈ mid, w.Nodup := by
  unfold isVise at hv
  rw [if_neg (by omega)] at hv
  split at hv
  · rename_i b c h1 h2
    have h3 := of_decide_eq_true hv
    refine ⟨b, c, (ws.drop (i + 1)).take (j - 1 - i), ?_, h3, fun w hw => h.nd (List.mem_of_mem_drop (List.mem_of_mem_take hw))⟩
    have hi : i < ws.length := by omega
    have e1 : ws.drop i = [b] :: ws.drop (i + 1) := by
      rw [List.drop_eq_getElem_cons hi]
      rw [List.getElem?_eq_getElem hi] at h1
      rw [Option.some.inj h1]
    have e2 : j + 1 - i = (j - 1 - i) + 1 + 1 := by omega
    rw [e1, e2, List.take_succ_cons, List.take_succ]
    have e3 : (ws.drop (i + 1))[j - 1 - i]? = some [c] := by
      rw [List.getElem?_drop]
      have : i + 1 + (j - 1 - i) = j := by omega
      rw [this, h2]
    rw [e3]
    rfl
  · cases hv
theorem tight_paths {b c : Int} {mid : List (List Int)} (hn : ∀ w ∈ mid, w.Nodup) (h : bnd b mid = some c) : paths none ([b] :: (mid ++ [[c]])) = [] ∧ (paths none (mid ++ [[c]])).length = 1 ∧ (paths none ([b] :: mid)).length = 1 := by
  refine ⟨?_, tight_one mid b c none hn h (by simp), ?_⟩
  · simp [paths, tight_none mid b c hn h]
  · simp [paths, chain_one mid b c hn h]
theorem no_vise_of_row {ws : List (List Int)} (h : Wk ws) {row : List Int} (hr : row ∈ paths none ws) {i j : Nat} (hij : i ≤ j) (hj : j < ws.length) : isVise ws i j = false := by
  cases hv : isVise ws i j with
  | false => rfl
  | true =>
    by_cases e : i = j
    · subst e
      unfold isVise at hv
      rw [if_pos rfl] at hv
      have h1 := of_decide_eq_true hv
      have h2 := ((mem_paths ws none row).mp hr).1.drop i
      have hi : i < ws.length := hj
      rw [List.drop_eq_getElem_cons hi] at h2
      rw [List.getElem?_eq_getElem hi] at h1
      rw [Option.some.inj h1] at h2
      generalize row.drop i = x at h2
      cases h2 with
      | cons q _ => cases q
    · obtain ⟨b, c, mid, e1, e2, e3⟩ := vise_tight h (by omega) hj hv
      have := paths_part hr i (j + 1 - i)
      rw [e1, (tight_paths e3 e2).1] at this
      cases this
end Dm.M
end

section
set_option Elab.async false
set_option linter.all false
set_option maxRecDepth 100000
set_option maxHeartbeats 1000000
/-! K93V2: the told vise. -/
namespace Dm.M
open PySem PySem.W
theorem viseAt_some {ws : List (List Int)} {i j : Nat} (h : viseAt ws i = some j) : i ≤ j ∧ j < ws.length ∧ isVise ws i j = true := by
  unfold viseAt at h
  have h1 := List.find?_some h
  have h2 := List.mem_range'_1.mp (List.mem_of_find?_eq_some h)
  exact ⟨h2.1, by omega, h1⟩
theorem told_some {ws : List (List Int)} {p : Nat × Nat} (h : toldVise ws = some p) : p.1 ≤ p.2 ∧ p.2 < ws.length ∧ isVise ws p.1 p.2 = true := by
  unfold toldVise at h
  obtain ⟨i, h1, rfl⟩ := Option.map_eq_some_iff.mp h
  have h2 := List.find?_some h1
  obtain ⟨j, hj⟩ := Option.isSome_iff_exists.mp h2
  have := viseAt_some hj
  simpa [hj] using this
theorem told_none {ws : List (List Int)} (h : toldVise ws = none) {i j : Nat} (hij : i ≤ j) (hj : j < ws.length) : isVise ws i j = false := by
  unfold toldVise at h
  rw [Option.map_eq_none_iff, List.find?_eq_none] at h
  have h1 := h i (List.mem_range.mpr (by omega))
  have h2 : viseAt ws i = none := by
    cases hv : viseAt ws i with
    | none => rfl
    | some k => rw [hv] at h1; simp at h1
  unfold viseAt at h2
  rw [List.find?_eq_none] at h2
  have := h2 j (List.mem_range'_1.mpr ⟨hij, by omega⟩)
  simpa using this
/-- rows: no vise is told -/
theorem told_of_row {ws : List (List Int)} (h : Wk ws) {row : List Int} (hr : row ∈ paths none ws) : toldVise ws = none := by
  cases ht : toldVise ws with
  | none => rfl
  | some p =>
    obtain ⟨h1, h2, h3⟩ := told_some ht
    rw [no_vise_of_row h hr h1 h2] at h3
    cases h3
/-- no rows: a vise is told -/
theorem told_of_none {ws : List (List Int)} (h : Wk ws) (hp : paths none ws = []) : ∃ p, toldVise ws = some p := by
  cases ht : toldVise ws with
  | some p => exact ⟨p, rfl⟩
  | none =>
    exfalso
    by_cases he : ∀ a ∈ ws, a ≠ []
    · obtain ⟨i, j, h1, h2, h3⟩ := vise_of_none ws h he hp
      rw [told_none ht (by omega) h2] at h3
      cases h3
    · obtain ⟨a, ha⟩ := Classical.not_forall.mp he
      obtain ⟨ha1, ha2⟩ := Classical.not_imp.mp ha
      have ha3 : a = [] := Classical.not_not.mp ha2
      subst ha3
      obtain ⟨i, hi⟩ := List.getElem?_of_mem ha1
      have hlt := (List.getElem?_eq_some_iff.mp hi).1
      have := told_none ht (Nat.le_refl i) hlt
      unfold isVise at this
      rw [if_pos rfl, hi] at this
      simp at this
end Dm.M
end

section
set_option Elab.async false
set_option linter.all false
set_option maxRecDepth 100000
set_option maxHeartbeats 1000000
/-! K93V3: _law_vised, the case of rows. -/
namespace Dm.M
open PySem PySem.W
theorem vised_rows (ws : List (List Int)) (h : Wk ws) (row : List Int) (rows : List (List Int)) (hp : paths none ws = row :: rows) : F__law_vised [eW ws, li (tu .int) (paths none ws)] = some (.bool true) := by
  have hw := h.ln
  have ht : toldVise ws = none := told_of_row h (row := row) (by rw [hp]; simp)
  have e : F_told_vise [eW ws] = some .none := by
    rw [told_vise_eq ws (by omega), ht]
    rfl
  refine run_def (r0 := [.va (eW ws), .va (li (tu .int) (paths none ws)), .no, .no, .no, .no, .no, .no]) (z := .rt (.bool true)) rfl rfl ((blk_nx (r1 := [.va (eW ws), .va (li (tu .int) (paths none ws)), .va .none, .no, .no, .no, .no, .no]) ?_).trans (blk_ifr ?_ ?_))
  · rw [ev_sAsg, ev_call]
    have ea : argsE [(vE 0)] [.va (eW ws), .va (li (tu .int) (paths none ws)), .no, .no, .no, .no, .no, .no] = some [eW ws] := rfl
    rw [ea, Option.bind_some, e]
    rfl
  · have h0 : (paths none ws).length > 0 := by rw [hp]; simp
    have h1 : ((paths none ws).length : Int) > 0 := by omega
    simp [h0]
  · rfl
end Dm.M
end

section
set_option Elab.async false
set_option linter.all false
set_option maxRecDepth 100000
set_option maxHeartbeats 1000000
/-! K93V4: _law_vised without rows: the tight weeks. -/
namespace Dm.M
open PySem PySem.W
theorem wk_less {ws vs : List (List Int)} (h : Wf ws) (hs : ∀ a ∈ vs, a ∈ ws) (hl : vs.length ≤ ws.length) : Wf vs := ⟨h.toWk.sub hs hl, fun a ha => h.s3 a (hs a ha), Nat.le_trans hl h.l5⟩
theorem number_eq (vs : List (List Int)) (h : Wk vs) : F_number_of_duties [eW vs] = some (.int ((paths none vs).length : Int)) := by
  cases vs with
  | nil => exact number_of_duties_eq [] h
  | cons a r => exact (number_of_duties_eq _ h).trans (congrArg (fun z : Int => some (PyData.int z)) (number_paths (a :: r)))
/-- weeks with one row: what the law asks of them -/
theorem less_one (vs : List (List Int)) (h : Wf vs) (h1 : (paths none vs).length = 1) : F__law_duties [eW vs] = some (li (tu .int) (paths none vs)) ∧ F_number_of_duties [eW vs] = some (.int 1) ∧ F_told_vise [eW vs] = some .none := by
  have hw := h.ln
  refine ⟨by rw [law_duties_eq vs h, duties_paths], ?_, ?_⟩
  · rw [number_eq vs h.toWk, h1]
    rfl
  · cases hp : paths none vs with
    | nil => rw [hp] at h1; cases h1
    | cons row r =>
      have : toldVise vs = none := told_of_row h.toWk (row := row) (by rw [hp]; simp)
      rw [told_vise_eq vs (by omega), this]
      rfl
end Dm.M
end

section
set_option Elab.async false
set_option linter.all false
set_option maxRecDepth 100000
set_option maxHeartbeats 1000000
/-! K93V5: _law_vised answers True. -/
namespace Dm.M
open PySem PySem.W
theorem bnd_two : ∀ (mid : List (List Int)) (b c : Int), bnd b mid = some c → ∀ w ∈ mid, w.length = 2
  | [], _, _, _, w, hw => by cases hw
  | [x, y] :: r, b, c, h, w, hw => by
    rcases List.mem_cons.mp hw with e | e
    · rw [e]; rfl
    · simp only [bnd] at h
      by_cases h1 : y = b
      · rw [if_pos h1] at h
        exact bnd_two r x c h w e
      · rw [if_neg h1] at h
        by_cases h2 : x = b
        · rw [if_pos h2] at h
          exact bnd_two r y c h w e
        · rw [if_neg h2] at h
          cases h
  | [] :: r, _, _, h, _, _ => by simp [bnd] at h
  | [_] :: r, _, _, h, _, _ => by simp [bnd] at h
  | (_ :: _ :: _ :: _) :: r, _, _, h, _, _ => by simp [bnd] at h
theorem call1 {F : List D → Option D} {a : E} {r : Env} {x z : D} (ha : a r = some x) (hF : F [x] = some z) : callE F [a] r = some z := by
  rw [ev_call, ev_args1, ha, ev_args0]
  exact hF
theorem call2 {F : List D → Option D} {a b : E} {r : Env} {x y z : D} (ha : a r = some x) (hb : b r = some y) (hF : F [x, y] = some z) : callE F [a, b] r = some z := by
  rw [ev_call, ev_args1, ha, ev_args1, hb, ev_args0]
  exact hF
theorem call3 {F : List D → Option D} {a b c : E} {r : Env} {x y w z : D} (ha : a r = some x) (hb : b r = some y) (hc : c r = some w) (hF : F [x, y, w] = some z) : callE F [a, b, c] r = some z := by
  rw [ev_call, ev_args1, ha, ev_args1, hb, ev_args1, hc, ev_args0]
  exact hF
def B_less : S := blk [(sIf (orT (trT (opE neD (unE lenD (callE F__law_duties [(vE 6)])) (kE (.int 1)))) (orT (notT (trT (callE F__law_is [(callE F_number_of_duties [(vE 6)]), (kE (.int 1))]))) (trT (unE notND (callE F_told_vise [(vE 6)]))))) (blk [(sRet (kE (.bool false)))]) (blk []))]
theorem less_ok (vs : List (List Int)) (h : Wf vs) (h1 : (paths none vs).length = 1) (s0 s1 s2 s3 s4 s5 s7 : Slot) : B_less [s0, s1, s2, s3, s4, s5, .va (eW vs), s7] = some (.nx [s0, s1, s2, s3, s4, s5, .va (eW vs), s7]) := by
  obtain ⟨e1, e2, e3⟩ := less_one vs h h1
  have a0 : vE 6 [s0, s1, s2, s3, s4, s5, .va (eW vs), s7] = some (eW vs) := rfl
  have a1 := call1 a0 e1
  have a3 := call1 a0 e3
  have a4 := call2 (b := kE (.int 1)) (call1 a0 e2) rfl (is_int 1)
  refine (blk_if ?_).trans rfl
  rw [ev_or, ev_tr, ev_op, ev_un, a1, ev_or, ev_not, ev_tr, a4, ev_tr, ev_un, a3]
  simp [h1]
end Dm.M
end

section
set_option Elab.async false
set_option linter.all false
set_option maxRecDepth 100000
set_option maxHeartbeats 1000000
/-! K93V6: _law_vised answers True. -/
namespace Dm.M
open PySem PySem.W
theorem cut_tail {α : Type} (x : α) (xs : List α) : cutL (x :: xs) (some 1) none = xs := cutL_from (x :: xs) 1
theorem clampI_neg1 (n : Nat) : clampI n (-1) = n - 1 := by
  unfold clampI
  rw [if_pos (by decide)]
  omega
theorem cut_init {α : Type} (xs : List α) (y : α) : cutL (xs ++ [y]) none (some (-1)) = xs := by
  show ((xs ++ [y]).drop 0).take (clampI (xs ++ [y]).length (-1) - 0) = _
  rw [clampI_neg1]
  simp
theorem cut_mid {α : Type} (x : α) (xs : List α) (y : α) : cutL (x :: (xs ++ [y])) (some 1) (some (-1)) = xs := by
  show ((x :: (xs ++ [y])).drop (clampI (x :: (xs ++ [y])).length ((1 : Nat) : Int))).take (clampI (x :: (xs ++ [y])).length (-1) - clampI (x :: (xs ++ [y])).length ((1 : Nat) : Int)) = _
  rw [clampI_neg1, clampI_nat]
  have e : min 1 (x :: (xs ++ [y])).length = 1 := by simp
  rw [e]
  simp
theorem forL_nx {tg : Tg} {b : S} {x : D} {xs : List D} {r r1 r2 : Env} (h1 : asg tg x r = some r1) (h2 : b r1 = some (.nx r2)) : forL tg b (x :: xs) r = forL tg b xs r2 := by
  rw [forL_cons, h1, Option.bind_some, h2]
  rfl
theorem vised_none (ws : List (List Int)) (h : Wf ws) (hp : paths none ws = []) : F__law_vised [eW ws, li (tu .int) (paths none ws)] = some (.bool true) := by
  have hw := h.ln
  obtain ⟨p, ht⟩ := told_of_none h.toWk hp
  obtain ⟨p1, p2, p3⟩ := told_some ht
  have e : F_told_vise [eW ws] = some (eI [(p.1 : Int), (p.2 : Int)]) := by
    rw [told_vise_eq ws (by omega), ht]
    rfl
  have g1 : ws[p.1]? = some (ws.getD p.1 []) := by simp [List.getD, List.getElem?_eq_getElem (show p.1 < ws.length by omega)]
  have c1 : (0 : Int) ≤ (p.1 : Int) := by omega
  have c2 : (p.1 : Int) ≤ (p.2 : Int) := by omega
  have c3 : (p.2 : Int) < (ws.length : Int) := by omega
  have s1 : sAsg (.nm 2) (callE F_told_vise [(vE 0)]) [.va (eW ws), .va (li (tu .int) (paths none ws)), .no, .no, .no, .no, .no, .no] = some (.nx [.va (eW ws), .va (li (tu .int) (paths none ws)), .va (eI [(p.1 : Int), (p.2 : Int)]), .no, .no, .no, .no, .no]) := by
    rw [ev_sAsg, call1 (x := eW ws) rfl e]
    rfl
  have s2 : trT (opE gtD (unE lenD (vE 1)) (kE (.int 0))) [.va (eW ws), .va (li (tu .int) (paths none ws)), .va (eI [(p.1 : Int), (p.2 : Int)]), .no, .no, .no, .no, .no] = some false := by
    simp [hp]
  have s3 : orT (notT (trT (callE F__law_is_integers [(vE 2)]))) (orT (trT (opE neD (unE lenD (vE 2)) (kE (.int 2)))) (notT (trT (chE3 leD leD ltD (kE (.int 0)) (opE ixD (vE 2) (kE (.int 0))) (opE ixD (vE 2) (kE (.int 1))) (unE lenD (vE 0)))))) [.va (eW ws), .va (li (tu .int) (paths none ws)), .va (eI [(p.1 : Int), (p.2 : Int)]), .no, .no, .no, .no, .no] = some false := by
    have a1 := call1 (F := F__law_is_integers) (a := vE 2) (r := [.va (eW ws), .va (li (tu .int) (paths none ws)), .va (eI [(p.1 : Int), (p.2 : Int)]), .no, .no, .no, .no, .no]) rfl (is_integers_eq [(p.1 : Int), (p.2 : Int)] (by simp))
    have c4 : chE3 leD leD ltD (kE (.int 0)) (opE ixD (vE 2) (kE (.int 0))) (opE ixD (vE 2) (kE (.int 1))) (unE lenD (vE 0)) [.va (eW ws), .va (li (tu .int) (paths none ws)), .va (eI [(p.1 : Int), (p.2 : Int)]), .no, .no, .no, .no, .no] = some (.bool true) := by
      unfold chE3
      simp [c1, c2, c3]
    rw [ev_or, ev_not, ev_tr, a1, ev_or, ev_not, ev_tr (a := chE3 _ _ _ _ _ _ _), c4]
    simp
  have s4 : sAsg (.tp [(.nm 3), (.nm 4)]) (vE 2) [.va (eW ws), .va (li (tu .int) (paths none ws)), .va (eI [(p.1 : Int), (p.2 : Int)]), .no, .no, .no, .no, .no] = some (.nx [.va (eW ws), .va (li (tu .int) (paths none ws)), .va (eI [(p.1 : Int), (p.2 : Int)]), .va (.int p.1), .va (.int p.2), .no, .no, .no]) := rfl
  refine run_def (r0 := [.va (eW ws), .va (li (tu .int) (paths none ws)), .no, .no, .no, .no, .no, .no]) (z := .rt (.bool true)) rfl rfl ((blk_nx s1).trans ((blk_if s2).trans ((blk_if s3).trans ((blk_nx s4).trans ?_))))
  by_cases hpp : p.1 = p.2
  · refine blk_ifr ?_ ?_
    · simp [hpp]
    · have hv : ws[p.1]? = some [] := by
        unfold isVise at p3
        rw [if_pos hpp] at p3
        exact of_decide_eq_true p3
      have e0 : PyData.tuple [] = eI [] := rfl
      simp [hv, e0]
  · refine (blk_if ?_).trans ?_
    · have : ¬ (p.1 : Int) = (p.2 : Int) := by omega
      simp [this]
    · obtain ⟨b, c, mid, t1, t2, t3⟩ := vise_tight h.toWk (i := p.1) (j := p.2) (by omega) p2 p3
      obtain ⟨u1, u2, u3⟩ := tight_paths t3 t2
      have tsub : ∀ a ∈ [b] :: (mid ++ [[c]]), a ∈ ws := fun a ha => by
        rw [← t1] at ha
        exact List.mem_of_mem_drop (List.mem_of_mem_take ha)
      have tlen : ([b] :: (mid ++ [[c]])).length ≤ ws.length := by
        rw [← t1]
        simp
        omega
      have wt : Wf ([b] :: (mid ++ [[c]])) := wk_less h tsub tlen
      have w1 : Wf (mid ++ [[c]]) := wk_less wt (fun a ha => List.mem_cons_of_mem _ ha) (by simp)
      have w2 : Wf ([b] :: mid) := wk_less wt (fun a ha => by
        rcases List.mem_cons.mp ha with e | e
        · rw [e]; exact List.mem_cons_self
        · exact List.mem_cons_of_mem _ (List.mem_append_left _ e)) (by simp)
      have s5 : sAsg (.nm 5) (cutE (vE 0) (some (vE 3)) (some (opE addD (vE 4) (kE (.int 1))))) [.va (eW ws), .va (li (tu .int) (paths none ws)), .va (eI [(p.1 : Int), (p.2 : Int)]), .va (.int p.1), .va (.int p.2), .no, .no, .no] = some (.nx [.va (eW ws), .va (li (tu .int) (paths none ws)), .va (eI [(p.1 : Int), (p.2 : Int)]), .va (.int p.1), .va (.int p.2), .va (eW ([b] :: (mid ++ [[c]]))), .no, .no]) := by
        have e1 : cutL ws (some (p.1 : Int)) (some ((p.2 : Int) + 1)) = [b] :: (mid ++ [[c]]) := by
          rw [← t1]
          exact cutL_mid ws p.1 (p.2 + 1) (by omega)
        simp [e1]
      refine (blk_nx s5).trans ((blk_if (t := orT _ _) ?_).trans ((blk_if (t := orT _ _) ?_).trans ((blk_nx ((for_ev (xs := [eW (mid ++ [[c]]), eW ([b] :: mid)]) ?_).trans ((forL_nx rfl (less_ok _ w1 u2 _ _ _ _ _ _ _)).trans ((forL_nx rfl (less_ok _ w2 u3 _ _ _ _ _ _ _)).trans (forL_nil _))))).trans (ret_ev (e := kE (.bool true)) (d := .bool true) (ev_k _ _)))))
      · have hl := lst_ev (comp_ev_all (e := tu PyData.int) (f := PyData.bool) (own := [7]) (it := seqI (cutE (vE 5) (some (kE (.int 1))) (some (unE negD (kE (.int 1)))))) (tg := .nm 7) (ts := noT) (el := opE eqD (unE lenD (vE 7)) (kE (.int 2))) (r := [.va (eW ws), .va (li (tu .int) (paths none ws)), .va (eI [(p.1 : Int), (p.2 : Int)]), .va (.int p.1), .va (.int p.2), .va (eW ([b] :: (mid ++ [[c]]))), .no, .no]) (xs := mid) (fun _ => true) (by simp [cut_mid]) (by simp at tlen; omega) (fun w hw => by
          refine ⟨_, rfl, rfl, ?_⟩
          have := bnd_two mid b c t2 w hw
          simp [this]))
        rw [ev_or, ev_or, ev_not, ev_tr (a := unE allLD _), ev_un, hl, Option.bind_some, allLD_bools]
        have gl : ([b] :: (mid ++ [[c]])).getLast? = some [c] := List.getLast?_concat (l := [b] :: mid)
        simp [gl]
      · have a0 : vE 5 [.va (eW ws), .va (li (tu .int) (paths none ws)), .va (eI [(p.1 : Int), (p.2 : Int)]), .va (.int p.1), .va (.int p.2), .va (eW ([b] :: (mid ++ [[c]]))), .no, .no] = some (eW ([b] :: (mid ++ [[c]]))) := rfl
        have d1 : F__law_duties [eW ([b] :: (mid ++ [[c]]))] = some (li (tu .int) (paths none ([b] :: (mid ++ [[c]])))) := by rw [law_duties_eq _ wt, duties_paths]
        have d2 : F_number_of_duties [eW ([b] :: (mid ++ [[c]]))] = some (.int 0) := by
          rw [number_eq _ wt.toWk, u1]
          rfl
        have d3 : F_told_duty [eW ([b] :: (mid ++ [[c]]))] = some .none := by
          rw [told_duty_eq _ wt.toWk, greedy_paths, u1]
          rfl
        have a4 := call2 (F := F__law_is) (b := kE (.int 0)) (call1 a0 d2) rfl (is_int 0)
        rw [ev_or, ev_tr, ev_op, ev_un, call1 a0 d1, ev_or, ev_not, ev_tr, a4, ev_tr, ev_un, call1 a0 d3]
        simp [u1]
      · simp [cut_tail]
        exact congrArg _ (cut_init ([b] :: mid) [c])
end Dm.M
end

section
set_option Elab.async false
set_option linter.all false
set_option maxRecDepth 100000
set_option maxHeartbeats 1000000
set_option autoImplicit true
/-! K93X: choices of the parcels are the rows, the plain facts. -/
namespace Dm.M
open PySem PySem.W
/-- the number of a version: its place in the wardens turned round, -1 if it is none -/
def num (a : List Int) (w : Int) : Int := match a.reverse.findIdx? (fun y => decide (y = w)) with
  | some i => (i : Int)
  | none => -1
def nums : List (List Int) → List Int → List Int
  | a :: ws, w :: row => num a w :: nums ws row
  | _, _ => []
def down (n : Nat) : List Int := (List.range (n + 1)).map fun i : Nat => (n : Int) - 1 - (i : Int)
def prodN {α : Type} : List (List α) → List (List Int)
  | [] => [[]]
  | a :: r => (down a.length).flatMap fun n => (prodN r).map (n :: ·)
def wAt (a : List Int) (n : Int) : Option Int := if 0 ≤ n then a.reverse[n.toNat]? else none
def chk (l : Option Int) : List (List Int) → List Int → Bool
  | [], [] => true
  | a :: r, n :: t => match wAt a n with
    | none => false
    | some w => !decide (l = some w) && chk (some w) r t
  | _, _ => false
theorem num_none {a : List Int} {w : Int} (h : w ∉ a) : num a w = -1 := by
  have : a.reverse.findIdx? (fun y => decide (y = w)) = none := by
    rw [List.findIdx?_eq_none_iff]
    intro x hx
    simp
    rintro rfl
    exact h (List.mem_reverse.mp hx)
  rw [num, this]
theorem wAt_num {a : List Int} {w : Int} (h : w ∈ a) : 0 ≤ num a w ∧ num a w < a.length ∧ wAt a (num a w) = some w := by
  cases e : a.reverse.findIdx? (fun y => decide (y = w)) with
  | none =>
    rw [List.findIdx?_eq_none_iff] at e
    have := e w (List.mem_reverse.mpr h)
    simp at this
  | some i =>
    have e' := e
    rw [List.findIdx?_eq_some_iff_getElem] at e
    obtain ⟨h1, h2, _⟩ := e
    simp only [decide_eq_true_eq] at h2
    have h3 : i < a.length := by simpa using h1
    have en : num a w = i := by rw [num, e']
    rw [en]
    refine ⟨by omega, by omega, ?_⟩
    unfold wAt
    rw [if_pos (by omega), Int.toNat_natCast, List.getElem?_eq_getElem h1, h2]
theorem wAt_neg (a : List Int) : wAt a (-1) = none := by simp [wAt]
theorem chk_nums : ∀ (ws : List (List Int)) (l : Option Int) (row : List Int), row.length = ws.length → chk l ws (nums ws row) = decide (row ∈ paths l ws)
  | [], l, [], _ => by simp [chk, nums, paths]
  | a :: r, l, w :: t, h => by
    have h' : t.length = r.length := by simpa using h
    have ih := chk_nums r (some w) t h'
    by_cases hw : w ∈ a
    · rw [nums, chk, (wAt_num hw).2.2]
      dsimp only
      rw [ih, paths]
      by_cases hl : l = some w
      · simp [hl]
      · simp [hl, hw]
    · rw [nums, chk, num_none hw, wAt_neg]
      dsimp only
      rw [paths]
      symm
      simp [hw]
  | [], _, _ :: _, h => by simp at h
  | _ :: _, _, [], h => by simp at h
theorem down_eq {a : List Int} (hn : a.Nodup) : down a.length = a.map (num a) ++ [-1] := by
  have hrev : a.reverse.Nodup := (List.reverse_perm a).nodup_iff.mpr hn
  unfold down
  rw [List.range_succ, List.map_append]
  congr 1
  · apply List.ext_getElem
    · simp
    · intro i h1 h2
      simp at h1 h2
      simp only [List.getElem_map, List.getElem_range]
      have hi : a[i] ∈ a := List.getElem_mem h2
      obtain ⟨q1, q2, q3⟩ := wAt_num hi
      unfold wAt at q3
      rw [if_pos q1, List.getElem?_eq_some_iff] at q3
      obtain ⟨k1, k2⟩ := q3
      have k3 : a.reverse[a.length - 1 - i]'(by simp; omega) = a[i] := by
        rw [List.getElem_reverse]
        congr 1
        omega
      have := (List.getElem_inj hrev).mp (k2.trans k3.symm)
      omega
  · simp
    omega
theorem flat_if (p : Int → Bool) (f : Int → List (List Int)) : ∀ xs : List Int, (xs.flatMap fun w => if p w then f w else []) = (xs.filter p).flatMap f
  | [] => rfl
  | x :: xs => by
    rw [List.flatMap_cons, flat_if p f xs, List.filter_cons]
    split <;> simp
theorem flat_congr {α β : Type} {f g : α → List β} : ∀ {xs : List α}, (∀ x ∈ xs, f x = g x) → xs.flatMap f = xs.flatMap g
  | [], _ => rfl
  | x :: xs, h => by rw [List.flatMap_cons, List.flatMap_cons, h x List.mem_cons_self, flat_congr fun y hy => h y (List.mem_cons_of_mem _ hy)]
theorem prod_paths : ∀ (ws : List (List Int)) (l : Option Int), (∀ a ∈ ws, a.Nodup) → (prodN ws).filter (chk l ws) = (paths l ws).map (nums ws)
  | [], l, _ => by simp [prodN, paths, nums, chk]
  | a :: r, l, h => by
    have ih := fun w => prod_paths r (some w) fun b hb => h b (List.mem_cons_of_mem _ hb)
    rw [prodN, down_eq (h a List.mem_cons_self), List.filter_flatMap, List.flatMap_append, List.flatMap_map]
    have e1 : (a.flatMap fun w => ((prodN r).map (num a w :: ·)).filter (chk l (a :: r))) = a.flatMap fun w => if (!decide (l = some w)) = true then ((paths (some w) r).map (nums r)).map (num a w :: ·) else [] := by
      refine flat_congr fun w hw => ?_
      rw [List.filter_map, ← ih w]
      have e : (chk l (a :: r) ∘ fun x => num a w :: x) = fun t => !decide (l = some w) && chk (some w) r t := by
        funext t
        simp only [Function.comp_apply, chk, (wAt_num hw).2.2]
      rw [e]
      by_cases hl : l = some w
      · simp [hl]
      · simp [hl]
    have e2 : ([-1] : List Int).flatMap (fun n => ((prodN r).map (n :: ·)).filter (chk l (a :: r))) = [] := by
      simp [chk, wAt_neg]
    rw [e1, e2, List.append_nil, flat_if, paths, List.map_flatMap]
    congr 1
    funext w
    rw [List.map_map, List.map_map]
    rfl
abbrev Need := Int × List Int
def areMet (needs : List Need) (ns : List Int) : Bool := needs.all fun p => decide (ns.getD p.1.toNat 0 ∈ p.2)
def isChoice (ps : List (List (List Need))) (ws : List Need) (ns : List Int) : Bool :=
  decide (ns.length = ps.length) && ((ns.zip ps).all fun p => decide (-1 ≤ p.1) && decide (p.1 < p.2.length)) && areMet ws ns && ((ns.zip ps).all fun p => decide (p.1 = -1) || areMet (p.2.getD p.1.toNat []) ns)
def fit (b : List Int) (w : Int) : List Int := if ((List.range b.length).filter fun s => !decide (b.getD s 0 = w)).length > 0 then ((List.range b.length).filter fun s => !decide (b.getD s 0 = w)).map fun s : Nat => (s : Int) else [9]
def parcelAt (ws : List (List Int)) (t : Nat) : List (List Need) := (ws.getD t []).reverse.map fun w => if t + 1 < ws.length then [((t : Int) + 1, fit (ws.getD (t + 1) []).reverse w)] else []
def parcels (ws : List (List Int)) : List (List (List Need)) := (List.range ws.length).map (parcelAt ws)
def wish (ws : List (List Int)) (t : Nat) : Need := ((t : Int), (List.range (ws.getD t []).length).map fun s : Nat => (s : Int))
def wishes (ws : List (List Int)) : List Need := (List.range ws.length).map (wish ws)
/-- the warden ahead of week t -/
def wPre (l : Option Int) (ws : List (List Int)) (ns : List Int) : Nat → Option Int
  | 0 => l
  | t + 1 => wAt (ws.getD t []) (ns.getD t 0)
theorem chk_iff : ∀ (ws : List (List Int)) (l : Option Int) (ns : List Int), chk l ws ns = true ↔ ns.length = ws.length ∧ ∀ t, t < ws.length → ∃ w, wAt (ws.getD t []) (ns.getD t 0) = some w ∧ wPre l ws ns t ≠ some w
  | [], l, [] => by simp [chk]
  | [], l, _ :: _ => by simp [chk]
  | _ :: _, l, [] => by simp [chk]
  | a :: r, l, n :: t => by
    rw [chk]
    constructor
    · intro h
      cases hw : wAt a n with
      | none => rw [hw] at h; cases h
      | some w =>
        rw [hw] at h
        simp only [Bool.and_eq_true] at h
        obtain ⟨h1, h2⟩ := (chk_iff r (some w) t).mp h.2
        refine ⟨by simp [h1], fun k hk => ?_⟩
        cases k with
        | zero => exact ⟨w, hw, by simpa [wPre] using h.1⟩
        | succ k =>
          obtain ⟨v, v1, v2⟩ := h2 k (by simpa using hk)
          refine ⟨v, by simpa using v1, ?_⟩
          cases k with
          | zero => simpa [wPre, hw] using v2
          | succ k => simpa [wPre] using v2
    · rintro ⟨h1, h2⟩
      obtain ⟨w, w1, w2⟩ := h2 0 (by simp)
      have w1' : wAt a n = some w := by simpa using w1
      rw [w1']
      have w2' : l ≠ some w := w2
      simp only [Bool.and_eq_true]
      refine ⟨by simpa using w2', (chk_iff r (some w) t).mpr ⟨by simpa using h1, fun k hk => ?_⟩⟩
      obtain ⟨v, v1, v2⟩ := h2 (k + 1) (by simpa using hk)
      refine ⟨v, by simpa using v1, ?_⟩
      cases k with
      | zero => simpa [wPre, w1'] using v2
      | succ k => simpa [wPre] using v2
theorem wAt_some {a : List Int} {n w : Int} (h : wAt a n = some w) : 0 ≤ n ∧ n < a.length ∧ a.reverse.getD n.toNat 0 = w := by
  unfold wAt at h
  split at h
  · rename_i h0
    obtain ⟨k1, k2⟩ := List.getElem?_eq_some_iff.mp h
    have : n.toNat < a.length := by simpa using k1
    refine ⟨h0, by omega, ?_⟩
    rw [List.getD, h]
    rfl
  · cases h
theorem wAt_of {a : List Int} {n : Int} (h0 : 0 ≤ n) (h1 : n < a.length) : wAt a n = some (a.reverse.getD n.toNat 0) := by
  unfold wAt
  rw [if_pos h0, List.getD]
  have : n.toNat < a.reverse.length := by simp; omega
  rw [List.getElem?_eq_getElem this]
  rfl
theorem fit_mem {b : List Int} {w m : Int} (hb : b.length ≤ 9) (hm : m < b.length) : m ∈ fit b.reverse w ↔ ∃ v, wAt b m = some v ∧ v ≠ w := by
  unfold fit
  have hrev : b.reverse.length = b.length := by simp
  constructor
  · intro h
    split at h
    · obtain ⟨s, hs, rfl⟩ := List.mem_map.mp h
      obtain ⟨h1, h2⟩ := List.mem_filter.mp hs
      have h1' : s < b.length := by simpa using h1
      refine ⟨_, wAt_of (by omega) hm, ?_⟩
      simpa using h2
    · have : m = 9 := by simpa using h
      omega
  · rintro ⟨v, h1, h2⟩
    obtain ⟨k1, k2, k3⟩ := wAt_some h1
    have hmem : m.toNat ∈ (List.range b.reverse.length).filter fun s => !decide (b.reverse.getD s 0 = w) := by
      rw [List.mem_filter]
      refine ⟨by rw [List.mem_range]; omega, ?_⟩
      rw [k3]
      simpa using h2
    rw [if_pos (List.length_pos_of_mem hmem)]
    exact List.mem_map.mpr ⟨m.toNat, hmem, by omega⟩
theorem zip_all {α β : Type} (p : α × β → Bool) (d : α) (e : β) : ∀ (xs : List α) (ys : List β), xs.length = ys.length → ((xs.zip ys).all p = true ↔ ∀ t, t < ys.length → p (xs.getD t d, ys.getD t e) = true)
  | [], [], _ => by simp
  | x :: xs, y :: ys, h => by
    have ih := zip_all p d e xs ys (by simpa using h)
    rw [List.zip_cons_cons, List.all_cons, Bool.and_eq_true, ih]
    constructor
    · rintro ⟨h1, h2⟩ t ht
      cases t with
      | zero => simpa using h1
      | succ t => simpa using h2 t (by simpa using ht)
    · intro k
      refine ⟨by simpa using k 0 (by simp), fun t ht => by simpa using k (t + 1) (by simpa using ht)⟩
  | [], _ :: _, h => by simp at h
  | _ :: _, [], h => by simp at h
theorem parcels_len (ws : List (List Int)) : (parcels ws).length = ws.length := by simp [parcels]
theorem parcels_at (ws : List (List Int)) {t : Nat} (ht : t < ws.length) : (parcels ws).getD t [] = parcelAt ws t := by simp [parcels, ht]
theorem parcelAt_len (ws : List (List Int)) (t : Nat) : (parcelAt ws t).length = (ws.getD t []).length := by simp [parcelAt]
theorem met_at (ws : List (List Int)) (ns : List Int) {t : Nat} {w : Int} (h : wAt (ws.getD t []) (ns.getD t 0) = some w) : areMet ((parcelAt ws t).getD (ns.getD t 0).toNat []) ns = (!decide (t + 1 < ws.length) || decide (ns.getD (t + 1) 0 ∈ fit (ws.getD (t + 1) []).reverse w)) := by
  unfold wAt at h
  have e : (parcelAt ws t).getD (ns.getD t 0).toNat [] = if t + 1 < ws.length then [((t : Int) + 1, fit (ws.getD (t + 1) []).reverse w)] else [] := by
    unfold parcelAt
    rw [List.getD, List.getElem?_map]
    split at h
    · rw [h]
      rfl
    · cases h
  rw [e]
  by_cases h1 : t + 1 < ws.length
  · have e2 : ((t : Int) + 1).toNat = t + 1 := by omega
    simp only [h1, if_true, areMet, List.all_cons, List.all_nil, e2, decide_true, Bool.not_true, Bool.false_or, Bool.and_true]
  · simp [h1, areMet]
theorem choice_chk (ws : List (List Int)) (h3 : ∀ a ∈ ws, a.length ≤ 9) (S : List Need) (hS : ∀ p ∈ S, ∃ t, t < ws.length ∧ p = wish ws t) (h0 : ws ≠ [] → wish ws 0 ∈ S) (ns : List Int) : isChoice (parcels ws) S ns = chk none ws ns := by
  rw [Bool.eq_iff_iff, chk_iff]
  unfold isChoice
  simp only [Bool.and_eq_true, decide_eq_true_eq, parcels_len]
  have h3' : ∀ t, (ws.getD t []).length ≤ 9 := fun t => by
    by_cases ht : t < ws.length
    · have : ws.getD t [] ∈ ws := by simp [List.getD, List.getElem?_eq_getElem ht]
      exact h3 _ this
    · simp [List.getD, List.getElem?_eq_none (Nat.le_of_not_lt ht)]
  constructor
  · rintro ⟨⟨⟨k1, k2⟩, k3⟩, k4⟩
    refine ⟨k1, ?_⟩
    rw [zip_all _ 0 [] _ _ (by rw [k1, parcels_len])] at k2 k4
    rw [parcels_len] at k2 k4
    have k2' : ∀ t, t < ws.length → -1 ≤ ns.getD t 0 ∧ ns.getD t 0 < (ws.getD t []).length := fun t ht => by
      have := k2 t ht
      simpa only [Bool.and_eq_true, decide_eq_true_eq, parcels_at ws ht, parcelAt_len] using this
    intro t
    induction t with
    | zero =>
      intro ht
      have hw := h0 (by intro z; rw [z] at ht; cases ht)
      have := (List.all_eq_true.mp k3) _ hw
      obtain ⟨s, _, hs⟩ := List.mem_map.mp (of_decide_eq_true this)
      have hs' : (s : Int) = ns.getD 0 0 := hs
      exact ⟨_, wAt_of (by omega) (k2' 0 ht).2, by simp [wPre]⟩
    | succ t ih =>
      intro ht
      obtain ⟨w, w1, _⟩ := ih (by omega)
      have h4 := k4 t (by omega)
      simp only [Bool.or_eq_true, decide_eq_true_eq, parcels_at ws (show t < ws.length by omega)] at h4
      have hp := wAt_some w1
      rcases h4 with h4 | h4
      · omega
      · rw [met_at ws ns w1] at h4
        simp only [ht, decide_true, Bool.not_true, Bool.false_or, decide_eq_true_eq] at h4
        obtain ⟨v, v1, v2⟩ := (fit_mem (h3' (t + 1)) (k2' (t + 1) ht).2).mp h4
        refine ⟨v, v1, ?_⟩
        rw [wPre, w1]
        intro z
        exact v2 (Option.some.inj z).symm
  · rintro ⟨k1, k2⟩
    rw [zip_all _ 0 [] _ _ (by rw [k1, parcels_len]), zip_all _ 0 [] _ _ (by rw [k1, parcels_len]), parcels_len]
    refine ⟨⟨⟨k1, fun t ht => ?_⟩, ?_⟩, fun t ht => ?_⟩
    · obtain ⟨w, w1, _⟩ := k2 t ht
      have hp := wAt_some w1
      simp only [Bool.and_eq_true, decide_eq_true_eq, parcels_at ws ht, parcelAt_len]
      omega
    · refine List.all_eq_true.mpr fun p hp => ?_
      obtain ⟨t, ht, rfl⟩ := hS p hp
      obtain ⟨w, w1, _⟩ := k2 t ht
      obtain ⟨q1, q2, _⟩ := wAt_some w1
      refine decide_eq_true ?_
      show ns.getD (Int.toNat (t : Int)) 0 ∈ List.map (fun s : Nat => (s : Int)) (List.range (ws.getD t []).length)
      rw [Int.toNat_natCast]
      generalize ns.getD t 0 = x at q1 q2
      exact List.mem_map.mpr ⟨x.toNat, by rw [List.mem_range]; omega, by omega⟩
    · obtain ⟨w, w1, _⟩ := k2 t ht
      simp only [Bool.or_eq_true, decide_eq_true_eq, parcels_at ws ht]
      right
      rw [met_at ws ns w1]
      by_cases h1 : t + 1 < ws.length
      · simp only [h1, decide_true, Bool.not_true, Bool.false_or, decide_eq_true_eq]
        obtain ⟨v, v1, v2⟩ := k2 (t + 1) h1
        refine (fit_mem (h3' (t + 1)) (wAt_some v1).2.1).mpr ⟨v, v1, fun z => v2 ?_⟩
        rw [wPre, w1, z]
      · simp [h1]
theorem choice_none (ws : List (List Int)) : isChoice (parcels ws) [] (List.replicate ws.length (-1)) = true := by
  unfold isChoice
  simp only [Bool.and_eq_true, decide_eq_true_eq, parcels_len, List.length_replicate, true_and]
  rw [zip_all _ 0 [] _ _ (by simp [parcels_len]), zip_all _ 0 [] _ _ (by simp [parcels_len]), parcels_len]
  refine ⟨⟨fun t ht => ?_, rfl⟩, fun t ht => ?_⟩
  · have e : (List.replicate ws.length (-1 : Int)).getD t 0 = -1 := by simp [List.getD, ht]
    rw [e]
    simp
    omega
  · have e : (List.replicate ws.length (-1 : Int)).getD t 0 = -1 := by simp [List.getD, ht]
    rw [e]
    simp
theorem mem_prod : ∀ (ws : List (List Int)) , List.replicate ws.length (-1) ∈ prodN ws
  | [] => by simp [prodN]
  | a :: r => by
    rw [prodN, List.mem_flatMap]
    refine ⟨-1, ?_, ?_⟩
    · unfold down
      exact List.mem_map.mpr ⟨a.length, by simp, by omega⟩
    · rw [List.length_cons, List.replicate_succ]
      exact List.mem_map.mpr ⟨_, mem_prod r, rfl⟩
theorem nums_prod : ∀ (ws : List (List Int)) (row : List Int), (∀ a ∈ ws, a.Nodup) → row.length = ws.length → nums ws row ∈ prodN ws
  | [], row, _, h => by cases row <;> simp [nums, prodN] at h ⊢
  | a :: r, [], _, h => by simp at h
  | a :: r, w :: t, hn, h => by
    rw [nums, prodN, List.mem_flatMap]
    refine ⟨num a w, ?_, List.mem_map.mpr ⟨_, nums_prod r t (fun b hb => hn b (List.mem_cons_of_mem _ hb)) (by simpa using h), rfl⟩⟩
    rw [down_eq (hn a List.mem_cons_self)]
    by_cases hw : w ∈ a
    · exact List.mem_append_left _ (List.mem_map_of_mem hw)
    · rw [num_none hw]
      simp
end Dm.M
end

section
set_option Elab.async false
set_option linter.all false
set_option maxRecDepth 100000
set_option maxHeartbeats 1000000
set_option autoImplicit true
/-! K93X2: what the defs of parcels answer. -/
namespace Dm.M
open PySem PySem.W
abbrev eN : Need → D := pr .int (tu .int)
abbrev eNs : List Need → D := tu eN
abbrev eP : List (List (List Need)) → D := tu (tu (tu eN))
theorem all_ev {α : Type} {e : α → D} {r : Env} {own : List Nat} {it : I} {tg : Tg} {ts : T} {el : E} {xs : List α} (p : α → Bool) (hi : it r = some (xs.map e))
    (h : ∀ x ∈ xs, ∃ r1, asg tg (e x) (wipeE r own) = some r1 ∧ ts r1 = some true ∧ el r1 = some (.bool (p x))) : allE own it tg ts el r = some (.bool (xs.all p)) := by
  rw [ev_all, hi, Option.bind_some, qL_all p xs h]
  rfl
theorem are_met_eq (needs : List Need) (ns : List Int) (h : ∀ p ∈ needs, 0 ≤ p.1 ∧ p.1 < ns.length) : F_are_met [eNs needs, eI ns] = some (.bool (areMet needs ns)) := by
  refine run_def (r0 := [.va (eNs needs), .va (eI ns), .no, .no]) (z := .rt (.bool (areMet needs ns))) rfl rfl (ret_ev ?_)
  refine all_ev (e := eN) (fun p : Need => decide (ns.getD p.1.toNat 0 ∈ p.2)) rfl fun p hp => ?_
  obtain ⟨h1, h2⟩ := h p hp
  refine ⟨_, ev_pr _ _ _ _ _ _, rfl, ?_⟩
  simp [atL_getD ns 0 h1 h2]
/-- what is needed is there -/
def Inside (ps : List (List (List Need))) (ws : List Need) : Prop := (∀ p ∈ ws, 0 ≤ p.1 ∧ p.1 < ps.length) ∧ ∀ a ∈ ps, ∀ v ∈ a, ∀ p ∈ v, 0 ≤ p.1 ∧ p.1 < ps.length
theorem is_choice_eq (ps : List (List (List Need))) (ws : List Need) (hi : Inside ps ws) (ns : List Int) : F_is_choice [eP ps, eNs ws, eI ns] = some (.bool (isChoice ps ws ns)) := by
  unfold isChoice
  by_cases h1 : ns.length = ps.length
  · have c2 : allE [3, 4] (zipI (vE 2) (vE 0)) (.tp [(.nm 3), (.nm 4)]) noT (chE leD ltD (unE negD (kE (.int 1))) (vE 3) (unE lenD (vE 4))) [.va (eP ps), .va (eNs ws), .va (eI ns), .no, .no] = some (.bool ((ns.zip ps).all fun p => decide (-1 ≤ p.1) && decide (p.1 < p.2.length))) := by
      refine all_ev (e := pr PyData.int (tu (tu eN))) (fun p : Int × List (List Need) => decide (-1 ≤ p.1) && decide (p.1 < p.2.length)) (by simp) fun p hp => ⟨_, ev_pr _ _ _ _ _ _, rfl, ?_⟩
      by_cases hk : -1 ≤ p.1 <;> simp [hk]
    have c3 : callE F_are_met [(vE 1), (vE 2)] [.va (eP ps), .va (eNs ws), .va (eI ns), .no, .no] = some (.bool (areMet ws ns)) := call2 (x := eNs ws) (y := eI ns) rfl rfl (are_met_eq ws ns (by rw [h1]; exact hi.1))
    refine run_def (r0 := [.va (eP ps), .va (eNs ws), .va (eI ns), .no, .no]) (z := .rt (.bool _)) rfl rfl ?_
    refine (blk_if (by simp [h1])).trans ?_
    cases e2 : (ns.zip ps).all fun p => decide (-1 ≤ p.1) && decide (p.1 < p.2.length) with
    | false =>
      rw [e2] at c2
      refine (blk_ifr (e := kE (.bool false)) (by rw [ev_not, ev_tr, c2]; rfl) rfl).trans ?_
      simp
    | true =>
      rw [e2] at c2
      refine (blk_if (by rw [ev_not, ev_tr, c2]; rfl)).trans ?_
      cases e3 : areMet ws ns with
      | false =>
        rw [e3] at c3
        refine (blk_ifr (e := kE (.bool false)) (by rw [ev_not, ev_tr, c3]; rfl) rfl).trans ?_
        simp
      | true =>
        rw [e3] at c3
        refine (blk_if (by rw [ev_not, ev_tr, c3]; rfl)).trans (ret_ev ?_)
        have e2' := List.all_eq_true.mp e2
        refine (all_ev (e := pr PyData.int (tu (tu eN))) (xs := ns.zip ps) (fun p : Int × List (List Need) => decide (p.1 = -1) || areMet (p.2.getD p.1.toNat []) ns) (by simp) fun p hp => ⟨_, ev_pr _ _ _ _ _ _, rfl, ?_⟩).trans ?_
        · have b1 := e2' p hp
          simp only [Bool.and_eq_true, decide_eq_true_eq] at b1
          by_cases hk : p.1 = -1
          · simp [hk]
          · have k0 : 0 ≤ p.1 := by omega
            have hm : p.2.getD p.1.toNat [] ∈ p.2 := by
              have : p.1.toNat < p.2.length := by omega
              simp [List.getD, List.getElem?_eq_getElem this]
            have hps : p.2 ∈ ps := (List.of_mem_zip hp).2
            have c4 := call2 (F := F_are_met) (a := opE ixD (vE 4) (vE 3)) (b := vE 2) (r := [.va (eP ps), .va (eNs ws), .va (eI ns), .va (.int p.1), .va (tu (tu eN) p.2)]) (by simp [atL_getD p.2 [] k0 b1.2]) rfl (are_met_eq (p.2.getD p.1.toNat []) ns (by rw [h1]; exact hi.2 _ hps _ hm))
            simp only [ev_wipe1, ev_wipe0, List.set_cons_zero, List.set_cons_succ, ev_orE, c4]
            simp [hk]
        · simp [h1]
  · have h2 : ¬ (ns.length : Int) = ps.length := by omega
    refine run_def (r0 := [.va (eP ps), .va (eNs ws), .va (eI ns), .no, .no]) (z := .rt (.bool _)) rfl rfl ?_
    refine (blk_ifr (e := kE (.bool false)) (by simp [h2]) rfl).trans ?_
    simp [h1]
def cf (ps : List (List (List Need))) (ws : List Need) (begun : List Int) : List (List Int) := ((prodN (ps.drop begun.length)).map (begun ++ ·)).filter (isChoice ps ws)
theorem down_len (n : Nat) : (down n).length = n + 1 := by simp [down]
theorem prodN_len {α : Type} : ∀ (ps : List (List α)), (∀ a ∈ ps, a.length ≤ 3) → (prodN ps).length ≤ 4 ^ ps.length
  | [], _ => by simp [prodN]
  | a :: r, h => by
    have ih := prodN_len r fun b hb => h b (List.mem_cons_of_mem _ hb)
    have ha := h a List.mem_cons_self
    rw [prodN]
    have : ∀ xs : List Int, (xs.flatMap fun n => (prodN r).map (n :: ·)).length = xs.length * (prodN r).length := by
      intro xs
      induction xs with
      | nil => simp
      | cons x xs ih => rw [List.flatMap_cons, List.length_append, ih, List.length_map, List.length_cons, Nat.succ_mul, Nat.add_comm]
    rw [this, down_len, List.length_cons, Nat.pow_succ', ]
    exact Nat.mul_le_mul (by omega) ih
theorem cf_len {ps : List (List (List Need))} {ws : List Need} (h3 : ∀ a ∈ ps, a.length ≤ 3) (h5 : ps.length ≤ 5) (begun : List Int) : (cf ps ws begun).length ≤ 1024 := by
  unfold cf
  refine Nat.le_trans (List.length_filter_le _ _) ?_
  rw [List.length_map]
  refine Nat.le_trans (prodN_len _ fun a ha => h3 a (List.mem_of_mem_drop ha)) ?_
  have : 4 ^ (ps.drop begun.length).length ≤ 4 ^ 5 := Nat.pow_le_pow_right (by decide) (by rw [List.length_drop]; omega)
  omega
theorem cf_step {ps : List (List (List Need))} {ws : List Need} {begun : List Int} {a : List (List Need)} (ha : ps[begun.length]? = some a) : cf ps ws begun = (down a.length).flatMap fun n => cf ps ws (begun ++ [n]) := by
  obtain ⟨hb, hb2⟩ := List.getElem?_eq_some_iff.mp ha
  have e : ps.drop begun.length = a :: ps.drop (begun.length + 1) := by
    rw [List.drop_eq_getElem_cons hb, hb2]
  unfold cf
  rw [e, prodN, List.map_flatMap, List.filter_flatMap]
  congr 1
  funext n
  rw [List.length_append, List.length_singleton, List.map_map]
  congr 2
  funext t
  simp
def B_ch_in (rec : List D → Option D) : S := blk [sExt 3 (seqI (callE rec [(vE 0), (vE 1), (opE addD (vE 2) (tupE [(vE 4)]))]))]
theorem choices_eq (ps : List (List (List Need))) (ws : List Need) (hi : Inside ps ws) (h3 : ∀ a ∈ ps, a.length ≤ 3) (h5 : ps.length ≤ 5) : ∀ (k : Nat) (begun : List Int), begun.length ≤ ps.length → ps.length - begun.length < k →
    R_choices_from k [eP ps, eNs ws, eI begun] = some (li (tu .int) (cf ps ws begun))
  | 0, _, _, h => by omega
  | k + 1, begun, hb, hk => by
    have hc := is_choice_eq ps ws hi begun
    by_cases hl : begun.length = ps.length
    · refine run_def (r0 := [.va (eP ps), .va (eNs ws), .va (eI begun), .no, .no]) (z := .rt (li (tu .int) (cf ps ws begun))) rfl rfl ?_
      have c3 := call3 (F := F_is_choice) (a := vE 0) (b := vE 1) (c := vE 2) (r := [.va (eP ps), .va (eNs ws), .va (eI begun), .no, .no]) rfl rfl rfl hc
      refine (blk_ifr (by simp [hl]) ?_).trans rfl
      have e : cf ps ws begun = if isChoice ps ws begun = true then [begun] else [] := by
        unfold cf
        rw [hl, List.drop_length, prodN]
        cases hq : isChoice ps ws begun <;> simp [hq]
      rw [ev_if, ev_tr, c3, e]
      cases isChoice ps ws begun <;> rfl
    · have hlt : begun.length < ps.length := by omega
      have hl' : ¬ (begun.length : Int) = ps.length := by omega
      obtain ⟨a, ha⟩ : ∃ a, ps[begun.length]? = some a := ⟨_, List.getElem?_eq_getElem hlt⟩
      have hin : a ∈ ps := List.mem_of_getElem? ha
      have ha3 := h3 a hin
      have hrg : rgDownI (opE subD (unE lenD (opE ixD (vE 0) (unE lenD (vE 2)))) (kE (.int 1))) (unE negD (kE (.int 2))) [.va (eP ps), .va (eNs ws), .va (eI begun), .ow (li (tu .int) []), .no] = some ((down a.length).map .int) := by
        rw [rgd_ev (x := (a.length : Int) - 1) (y := -2) (by simp [ha]) (by simp) (by omega) (by omega)]
        unfold down
        have e : (((a.length : Int) - 1) - -2).toNat = a.length + 1 := by omega
        rw [e, List.map_map]
        rfl
      have hloop := forL_all (e := PyData.int) (tg := .nm 4) (b := B_ch_in (R_choices_from k)) (fun done r => ∃ s4, r = [.va (eP ps), .va (eNs ws), .va (eI begun), .ow (li (tu .int) (done.flatMap fun n => cf ps ws (begun ++ [n]))), s4]) (down a.length) [] [.va (eP ps), .va (eNs ws), .va (eI begun), .ow (li (tu .int) []), .no] ⟨_, rfl⟩ (by
        rintro done x rest r hd ⟨s4, rfl⟩
        have ih := choices_eq ps ws hi h3 h5 k (begun ++ [x]) (by simp; omega) (by simp; omega)
        have c3 := call3 (F := R_choices_from k) (a := vE 0) (b := vE 1) (c := opE addD (vE 2) (tupE [(vE 4)])) (r := [.va (eP ps), .va (eNs ws), .va (eI begun), .ow (li (tu .int) (done.flatMap fun n => cf ps ws (begun ++ [n]))), .va (.int x)]) rfl rfl (by simp [add_one (e := PyData.int) begun x (by omega)]) ih
        have hlen : ((done ++ [x]).flatMap fun n => cf ps ws (begun ++ [n])).length ≤ 10000 := by
          have h1 : ∀ xs : List Int, (xs.flatMap fun n => cf ps ws (begun ++ [n])).length ≤ xs.length * 1024 := by
            intro xs
            induction xs with
            | nil => simp
            | cons x xs ih =>
              rw [List.flatMap_cons, List.length_append, List.length_cons, Nat.succ_mul]
              have := cf_len (ws := ws) h3 h5 (begun ++ [x])
              omega
          have h2 : (done ++ [x]).length ≤ 4 := by
            have := congrArg List.length hd
            simp [down_len] at this
            simp
            omega
          have := h1 (done ++ [x])
          omega
        refine ⟨_, _, rfl, .inl ?_, .va (.int x), rfl⟩
        rw [List.flatMap_append, List.length_append] at hlen
        generalize hacc : (done.flatMap fun n => cf ps ws (begun ++ [n])) = acc at *
        have hx : [x].flatMap (fun n => cf ps ws (begun ++ [n])) = cf ps ws (begun ++ [x]) := by simp
        rw [hx] at hlen
        have hok : lenOk (acc.length + (cf ps ws (begun ++ [x])).length) = true := lenOk_small (by omega)
        rw [List.flatMap_append, hacc, hx]
        refine (blk_nx ?_).trans rfl
        show sExt 3 (seqI (callE (R_choices_from k) [(vE 0), (vE 1), (opE addD (vE 2) (tupE [(vE 4)]))])) [.va (eP ps), .va (eNs ws), .va (eI begun), .ow (li (tu .int) acc), .va (.int x)] = _
        rw [ev_sExt, ev_seq, c3]
        simp only [Option.bind_some, seqD_li, ev_own, List.getElem?_cons_succ, List.getElem?_cons_zero, li]
        simp [hok])
      obtain ⟨r', q, s4, rfl⟩ := hloop
      refine run_def (r0 := [.va (eP ps), .va (eNs ws), .va (eI begun), .no, .no]) (z := .rt (li (tu .int) (cf ps ws begun))) rfl rfl ?_
      refine (blk_if (by simp [hl'])).trans ((blk_nx (r1 := [.va (eP ps), .va (eNs ws), .va (eI begun), .ow (li (tu .int) []), .no]) rfl).trans ((blk_nx ((for_ev hrg).trans q)).trans (ret_ev ?_)))
      rw [cf_step ha]
      rfl
end Dm.M
end

section
set_option Elab.async false
set_option linter.all false
set_option maxRecDepth 100000
set_option maxHeartbeats 1000000
set_option autoImplicit true
/-! K93X3: told choices, numbers of choices, quarrels. -/
namespace Dm.M
open PySem PySem.W
/-- parcels that the law makes -/
structure Pa (ps : List (List (List Need))) : Prop where
  s3 : ∀ a ∈ ps, a.length ≤ 3
  l5 : ps.length ≤ 5
theorem choices0_eq {ps : List (List (List Need))} {ws : List Need} (h : Pa ps) (hi : Inside ps ws) : F_choices_from [eP ps, eNs ws, .tuple []] = some (li (tu .int) (cf ps ws [])) :=
  choices_eq ps ws hi h.s3 h.l5 30 [] (by simp) (by have := h.l5; simp; omega)
theorem told_choice_eq {ps : List (List (List Need))} {ws : List Need} (h : Pa ps) (hi : Inside ps ws) : F_told_choice [eP ps, eNs ws] = some (optI (cf ps ws []).head?) := by
  have hc := choices0_eq h hi
  have c3 := call3 (F := F_choices_from) (a := vE 0) (b := vE 1) (c := tupE []) (r := [.va (eP ps), .va (eNs ws), .no]) rfl rfl rfl hc
  refine run_def (r0 := [.va (eP ps), .va (eNs ws), .no]) (z := .rt (optI (cf ps ws []).head?)) rfl rfl ((blk_nx (r1 := [.va (eP ps), .va (eNs ws), .va (li (tu .int) (cf ps ws []))]) ?_).trans (ret_ev ?_))
  · rw [ev_sAsg, c3]
    rfl
  · cases cf ps ws [] with
    | nil => simp [optI]
    | cons x xs => simp [optI]
theorem number_of_choices_eq {ps : List (List (List Need))} {ws : List Need} (h : Pa ps) (hi : Inside ps ws) : F_number_of_choices [eP ps, eNs ws] = some (.int ((cf ps ws []).length : Int)) := by
  have hc := choices0_eq h hi
  have c3 := call3 (F := F_choices_from) (a := vE 0) (b := vE 1) (c := tupE []) (r := [.va (eP ps), .va (eNs ws)]) rfl rfl rfl hc
  refine run_def (r0 := [.va (eP ps), .va (eNs ws)]) (z := .rt _) rfl rfl (ret_ev ?_)
  · rw [ev_un, c3, Option.bind_some, lenD_li]
def sub (ws : List Need) (places : List Int) : List Need := places.map fun i => ws.getD i.toNat (0, [])
def Within (n : Nat) (places : List Int) : Prop := ∀ i ∈ places, 0 ≤ i ∧ i < n
theorem sub_mem {ws : List Need} {places : List Int} (h : Within ws.length places) {p : Need} (hp : p ∈ sub ws places) : p ∈ ws := by
  obtain ⟨i, hi, rfl⟩ := List.mem_map.mp hp
  obtain ⟨h1, h2⟩ := h i hi
  have : i.toNat < ws.length := by omega
  simp [List.getD, List.getElem?_eq_getElem this]
theorem sub_inside {ps : List (List (List Need))} {ws : List Need} (hi : Inside ps ws) {places : List Int} (h : Within ws.length places) : Inside ps (sub ws places) := ⟨fun p hp => hi.1 p (sub_mem h hp), hi.2⟩
def has (ps : List (List (List Need))) (ws : List Need) (places : List Int) : Bool := !(cf ps (sub ws places) []).isEmpty
theorem has_choice_eq {ps : List (List (List Need))} {ws : List Need} (h : Pa ps) (hi : Inside ps ws) {places : List Int} (hw : Within ws.length places) (hl : places.length ≤ 1000) : F_has_choice [eP ps, eNs ws, eI places] = some (.bool (has ps ws places)) := by
  have hc := told_choice_eq h (sub_inside hi hw)
  have hm := comp_ev_all (e := PyData.int) (f := eN) (own := [3]) (it := seqI (vE 2)) (tg := .nm 3) (ts := noT) (el := opE ixD (vE 1) (vE 3)) (r := [.va (eP ps), .va (eNs ws), .va (eI places), .no]) (xs := places) (fun i => ws.getD i.toNat (0, [])) rfl (by omega) (fun i hi => by
    obtain ⟨h1, h2⟩ := hw i hi
    refine ⟨_, rfl, rfl, ?_⟩
    simp [atL_getD ws (0, []) h1 h2])
  have c2 := call2 (F := F_told_choice) (a := vE 0) (b := tupI (seqI (lstI (compI [3] (seqI (vE 2)) (.nm 3) noT (opE ixD (vE 1) (vE 3)))))) (r := [.va (eP ps), .va (eNs ws), .va (eI places), .no]) rfl (tupl_ev hm) hc
  refine run_def (r0 := [.va (eP ps), .va (eNs ws), .va (eI places), .no]) (z := .rt _) rfl rfl (ret_ev ?_)
  rw [ev_un, c2]
  unfold has
  cases cf ps (sub ws places) [] <;> rfl
theorem all_sets_eq (n : Nat) (hn : n ≤ 10) : F_all_sets [.int n] = some (li (tu .int) (lexS (rgi n))) := by
  have hr : rgI (kE (.int 0)) (vE 0) [.va (.int n), .va (li (tu .int) [[]]), .no, .no] = some ((List.range n).map fun i : Nat => .int (i : Int)) := by
    rw [rg_ev (x := 0) (y := (n : Int)) (by simp) (by simp) (by omega) (by omega), rangeL_nat]
  obtain ⟨r', q, s2, rfl⟩ := forL_range (tg := .nm 2) (b := blk [(sAsg (.nm 1) (opE addD (vE 1) (lstI (compI [3] (seqI (vE 1)) (.nm 3) noT (opE addD (vE 3) (tupE [(vE 2)]))))))]) (fun k r => ∃ s2, r = [.va (.int n), .va (li (tu .int) (setsU k)), s2, .no]) n [.va (.int n), .va (li (tu .int) [[]]), .no, .no] ⟨_, rfl⟩ (by
    rintro k r hk ⟨s2, rfl⟩
    refine ⟨_, _, rfl, .inl ?_, .va (.int k), rfl⟩
    have h2 : (setsU k).length ≤ 1024 := by
      rw [setsU_len]
      have : 2 ^ k ≤ 2 ^ 10 := Nat.pow_le_pow_right (by decide) (by omega)
      omega
    have hm := comp_ev_all (e := tu PyData.int) (f := tu PyData.int) (own := [3]) (it := seqI (vE 1)) (tg := .nm 3) (ts := noT) (el := opE addD (vE 3) (tupE [(vE 2)])) (r := [.va (.int n), .va (li (tu .int) (setsU k)), .va (.int k), .no]) (xs := setsU k) (fun s => s ++ [(k : Int)]) rfl (by omega) (fun s hs => by
      have h3 : s.length ≤ 10 := by
        have := ((mem_setsU k s).mp hs).length_le
        simp [rgi] at this
        omega
      refine ⟨_, rfl, rfl, ?_⟩
      simp [add_one (e := PyData.int) s k (by omega)])
    refine (blk_nx ?_).trans rfl
    show sAsg (.nm 1) (opE addD (vE 1) (lstI (compI [3] (seqI (vE 1)) (.nm 3) noT (opE addD (vE 3) (tupE [(vE 2)]))))) [.va (.int n), .va (li (tu .int) (setsU k)), .va (.int k), .no] = _
    rw [ev_sAsg, ev_op, lst_ev hm]
    simp only [ev_v, List.getElem?_cons_succ, List.getElem?_cons_zero, Option.bind_some]
    rw [addD_li _ _ (by rw [List.length_map]; omega), setsU]
    simp)
  refine run_def (r0 := [.va (.int n), .no, .no, .no]) (z := .rt _) rfl rfl ((blk_nx (r1 := [.va (.int n), .va (li (tu .int) [[]]), .no, .no]) rfl).trans ((blk_nx ((for_ev hr).trans q)).trans (ret_ev ?_)))
  exact sort_setsU n (by omega)
def fewer (places : List Int) : List (List Int) := places.map fun x => places.filter fun y => !decide (y = x)
def isQ (ps : List (List (List Need))) (ws : List Need) (places : List Int) : Bool := !has ps ws places && (fewer places).all (has ps ws)
def B_quarrel_in : S := blk [(sAsg (.nm 3) (lstI (compI [4] (seqI (vE 2)) (.nm 4) noT (tupI (seqI (lstI (compI [5] (seqI (vE 2)) (.nm 5) (trT (opE neD (vE 5) (vE 4))) (vE 5)))))))), (sIf (andT (notT (trT (callE F_has_choice [(vE 0), (vE 1), (vE 2)]))) (trT (allE [6] (seqI (vE 3)) (.nm 6) noT (callE F_has_choice [(vE 0), (vE 1), (vE 6)])))) (blk [(sRet (vE 2))]) (blk []))]
theorem told_quarrel_eq {ps : List (List (List Need))} {ws : List Need} (h : Pa ps) (hi : Inside ps ws) (hw : ws.length ≤ 10) : F_told_quarrel [eP ps, eNs ws] = some (optI ((lexS (rgi ws.length)).find? (isQ ps ws))) := by
  have hin : ∀ t ∈ lexS (rgi ws.length), Within ws.length t ∧ t.length ≤ 10 := fun t ht => by
    have := (mem_lexS _ t).mp ht
    refine ⟨fun i hi => mem_rgi.mp (this.subset hi), ?_⟩
    have := this.length_le
    simp [rgi] at this
    omega
  have hseq : seqI (callE F_all_sets [(unE lenD (vE 1))]) [.va (eP ps), .va (eNs ws), .no, .no, .no, .no, .no] = some ((lexS (rgi ws.length)).map (tu .int)) := by
    rw [ev_seq, call1 (x := .int ws.length) (by simp) (all_sets_eq ws.length hw)]
    rfl
  obtain ⟨v1, v2⟩ := forL_find (e := tu PyData.int) (tg := .nm 2) (b := B_quarrel_in) (fun r => ∃ s2 s3, r = [.va (eP ps), .va (eNs ws), s2, s3, .no, .no, .no]) (isQ ps ws) (tu .int) (lexS (rgi ws.length)) [.va (eP ps), .va (eNs ws), .no, .no, .no, .no, .no] ⟨_, _, rfl⟩ (by
    rintro t ht r ⟨s2, s3, rfl⟩
    obtain ⟨t1, t2⟩ := hin t ht
    have hf : ∀ x, Within ws.length (t.filter fun y => !decide (y = x)) ∧ (t.filter fun y => !decide (y = x)).length ≤ 10 := fun x => ⟨fun i hi => t1 i (List.mem_filter.mp hi).1, Nat.le_trans (List.length_filter_le _ _) t2⟩
    have hm := comp_ev_all (e := PyData.int) (f := tu PyData.int) (own := [4]) (it := seqI (vE 2)) (tg := .nm 4) (ts := noT) (el := tupI (seqI (lstI (compI [5] (seqI (vE 2)) (.nm 5) (trT (opE neD (vE 5) (vE 4))) (vE 5))))) (r := [.va (eP ps), .va (eNs ws), .va (eI t), s3, .no, .no, .no]) (xs := t) (fun x => t.filter fun y => !decide (y = x)) rfl (by omega) (fun x hx => by
      refine ⟨_, rfl, rfl, ?_⟩
      have := comp_ev (e := PyData.int) (f := PyData.int) (own := [5]) (it := seqI (vE 2)) (tg := .nm 5) (ts := trT (opE neD (vE 5) (vE 4))) (el := vE 5) (r := [.va (eP ps), .va (eNs ws), .va (eI t), s3, .va (.int x), .no, .no]) (xs := t) (fun y => !decide (y = x)) id rfl (by omega) (fun y hy => ⟨_, rfl, by simp, fun _ => rfl⟩)
      rw [List.map_id] at this
      exact tupl_ev this)
    have hs : sAsg (.nm 3) (lstI (compI [4] (seqI (vE 2)) (.nm 4) noT (tupI (seqI (lstI (compI [5] (seqI (vE 2)) (.nm 5) (trT (opE neD (vE 5) (vE 4))) (vE 5))))))) [.va (eP ps), .va (eNs ws), .va (eI t), s3, .no, .no, .no] = some (.nx [.va (eP ps), .va (eNs ws), .va (eI t), .va (li (tu .int) (fewer t)), .no, .no, .no]) := by
      rw [ev_sAsg, lst_ev hm]
      rfl
    have c3 := call3 (F := F_has_choice) (a := vE 0) (b := vE 1) (c := vE 2) (r := [.va (eP ps), .va (eNs ws), .va (eI t), .va (li (tu .int) (fewer t)), .no, .no, .no]) rfl rfl rfl (has_choice_eq h hi t1 (by omega))
    have c4 : allE [6] (seqI (vE 3)) (.nm 6) noT (callE F_has_choice [(vE 0), (vE 1), (vE 6)]) [.va (eP ps), .va (eNs ws), .va (eI t), .va (li (tu .int) (fewer t)), .no, .no, .no] = some (.bool ((fewer t).all (has ps ws))) := by
      refine all_ev (e := tu PyData.int) (has ps ws) rfl fun y hy => ⟨_, rfl, rfl, ?_⟩
      obtain ⟨x, _, rfl⟩ := List.mem_map.mp hy
      exact call3 (F := F_has_choice) (a := vE 0) (b := vE 1) (c := vE 6) rfl rfl rfl (has_choice_eq h hi (hf x).1 (by have := (hf x).2; omega))
    have c5 : andT (notT (trT (callE F_has_choice [(vE 0), (vE 1), (vE 2)]))) (trT (allE [6] (seqI (vE 3)) (.nm 6) noT (callE F_has_choice [(vE 0), (vE 1), (vE 6)]))) [.va (eP ps), .va (eNs ws), .va (eI t), .va (li (tu .int) (fewer t)), .no, .no, .no] = some (isQ ps ws t) := by
      rw [ev_and, ev_not, ev_tr, c3, ev_tr, c4]
      unfold isQ
      cases has ps ws t <;> simp
    refine ⟨_, rfl, fun hp => ?_, fun hp => ⟨_, .inl ?_, .va (eI t), .va (li (tu .int) (fewer t)), rfl⟩⟩
    · rw [hp] at c5
      exact (blk_nx hs).trans (blk_ifr c5 rfl)
    · rw [hp] at c5
      exact (blk_nx hs).trans ((blk_if c5).trans rfl))
  cases hq : (lexS (rgi ws.length)).find? (isQ ps ws) with
  | some t => exact run_def (r0 := [.va (eP ps), .va (eNs ws), .no, .no, .no, .no, .no]) (z := .rt _) rfl rfl (blk_rt ((for_ev hseq).trans (v1 t hq)))
  | none =>
    obtain ⟨r', q, _⟩ := v2 hq
    exact run_def (r0 := [.va (eP ps), .va (eNs ws), .no, .no, .no, .no, .no]) (z := .rt .none) rfl rfl ((blk_nx ((for_ev hseq).trans q)).trans (ret_ev rfl))
end Dm.M
end

section
set_option Elab.async false
set_option linter.all false
set_option maxRecDepth 100000
set_option maxHeartbeats 1000000
set_option autoImplicit true
/-! K93X4: the law's parcels and numbers. -/
namespace Dm.M
open PySem PySem.W
def B_parc_in : S := blk [(sAsg (.nm 5) (ifE (trT (opE ltD (opE addD (vE 2) (kE (.int 1))) (unE lenD (vE 0)))) (backE (opE ixD (vE 0) (opE addD (vE 2) (kE (.int 1)))) none) (tupE []))), (sAsg (.nm 6) (tupI (seqI (lstI (compI [7] (rgI (kE (.int 0)) (unE lenD (vE 5))) (.nm 7) (trT (opE neD (opE ixD (vE 5) (vE 7)) (vE 4))) (vE 7)))))), (sAsg (.nm 3) (opE addD (vE 3) (tupE [(ifE (trT (opE ltD (opE addD (vE 2) (kE (.int 1))) (unE lenD (vE 0)))) (tupE [(tupE [(opE addD (vE 2) (kE (.int 1))), (ifE (trT (opE gtD (unE lenD (vE 6)) (kE (.int 0)))) (vE 6) (tupE [(kE (.int 9))]))])]) (tupE []))])))]
def fitF (b : List Int) (w : Int) : List Int := ((List.range b.length).filter fun s => !decide (b.getD s 0 = w)).map fun s : Nat => (s : Int)
theorem fit_F (b : List Int) (w : Int) : fit b w = if (fitF b w).length > 0 then fitF b w else [9] := by
  unfold fit fitF
  rw [List.length_map]
def verAt (ws : List (List Int)) (t : Nat) (w : Int) : List Need := if t + 1 < ws.length then [((t : Int) + 1, fit (ws.getD (t + 1) []).reverse w)] else []
theorem parc_body (ws : List (List Int)) (h : Wf ws) (t : Nat) (ht : t < ws.length) (w : Int) (vs : List (List Need)) (hv : vs.length ≤ 1000) (s1 s5 s6 s7 : Slot) :
    ∃ s5' s6', B_parc_in [.va (eW ws), s1, .va (.int t), .va (tu (tu eN) vs), .va (.int w), s5, s6, .no] = some (.nx [.va (eW ws), s1, .va (.int t), .va (tu (tu eN) (vs ++ [verAt ws t w])), .va (.int w), s5', s6', .no]) := by
  have hl := h.l5
  let b := if t + 1 < ws.length then (ws.getD (t + 1) []).reverse else []
  have hb : b.length ≤ 3 := by
    by_cases h1 : t + 1 < ws.length
    · have hm : ws.getD (t + 1) [] ∈ ws := by simp [List.getD, List.getElem?_eq_getElem h1]
      have := h.s3 _ hm
      simp only [b, h1, if_true, List.length_reverse]
      exact this
    · simp [b, h1]
  have c1 : trT (opE ltD (opE addD (vE 2) (kE (.int 1))) (unE lenD (vE 0))) [.va (eW ws), s1, .va (.int t), .va (tu (tu eN) vs), .va (.int w), s5, s6, .no] = some (decide (t + 1 < ws.length)) := by
    simp
    omega
  have q1 : sAsg (.nm 5) (ifE (trT (opE ltD (opE addD (vE 2) (kE (.int 1))) (unE lenD (vE 0)))) (backE (opE ixD (vE 0) (opE addD (vE 2) (kE (.int 1)))) none) (tupE [])) [.va (eW ws), s1, .va (.int t), .va (tu (tu eN) vs), .va (.int w), s5, s6, .no] = some (.nx [.va (eW ws), s1, .va (.int t), .va (tu (tu eN) vs), .va (.int w), .va (eI b), s6, .no]) := by
    rw [ev_sAsg, ev_if, c1]
    by_cases h1 : t + 1 < ws.length
    · have hg : ws[t + 1]? = some (ws[t + 1]) := List.getElem?_eq_getElem h1
      simp [b, h1, backL_all]
    · simp [b, h1]
      rfl
  have q2 : sAsg (.nm 6) (tupI (seqI (lstI (compI [7] (rgI (kE (.int 0)) (unE lenD (vE 5))) (.nm 7) (trT (opE neD (opE ixD (vE 5) (vE 7)) (vE 4))) (vE 7))))) [.va (eW ws), s1, .va (.int t), .va (tu (tu eN) vs), .va (.int w), .va (eI b), s6, .no] = some (.nx [.va (eW ws), s1, .va (.int t), .va (tu (tu eN) vs), .va (.int w), .va (eI b), .va (eI (fitF b w)), .no]) := by
    have hr : rgI (kE (.int 0)) (unE lenD (vE 5)) [.va (eW ws), s1, .va (.int t), .va (tu (tu eN) vs), .va (.int w), .va (eI b), s6, .no] = some ((List.range b.length).map fun i : Nat => .int (i : Int)) := by
      rw [rg_ev (x := 0) (y := (b.length : Int)) (by simp) (by simp) (by omega) (by omega), rangeL_nat]
    have := comp_ev (e := fun i : Nat => PyData.int (i : Int)) (f := PyData.int) (own := [7]) (tg := .nm 7) (ts := trT (opE neD (opE ixD (vE 5) (vE 7)) (vE 4))) (el := vE 7) (fun s : Nat => !decide (b.getD s 0 = w)) (fun s : Nat => (s : Int)) hr (by simp; omega) (fun s hs => by
      have hs' := List.mem_range.mp hs
      refine ⟨_, rfl, ?_, fun _ => rfl⟩
      have e : atL b (s : Int) = some (b.getD s 0) := by rw [atL_getD b 0 (by omega) (by omega)]; simp
      simp only [ev_wipe1, ev_wipe0, List.set_cons_succ, List.set_cons_zero, ev_tr, ev_op, ev_v, List.getElem?_cons_succ, List.getElem?_cons_zero, Option.bind_some, ixD_tu, e, Option.map_some, neD_int, truD_bool])
    rw [ev_sAsg, tupl_ev this]
    rfl
  refine ⟨.va (eI b), .va (eI (fitF b w)), (blk_nx q1).trans ((blk_nx q2).trans ((blk_nx ?_).trans rfl))⟩
  have c2 : trT (opE ltD (opE addD (vE 2) (kE (.int 1))) (unE lenD (vE 0))) [.va (eW ws), s1, .va (.int t), .va (tu (tu eN) vs), .va (.int w), .va (eI b), .va (eI (fitF b w)), .no] = some (decide (t + 1 < ws.length)) := by
    simp
    omega
  have e2 : ∀ v : List Need, addD (tu (tu eN) vs) (.tuple [tu eN v]) = some (tu (tu eN) (vs ++ [v])) := fun v => add_one (e := tu eN) vs v (by omega)
  have hE : ifE (trT (opE ltD (opE addD (vE 2) (kE (.int 1))) (unE lenD (vE 0)))) (tupE [(tupE [(opE addD (vE 2) (kE (.int 1))), (ifE (trT (opE gtD (unE lenD (vE 6)) (kE (.int 0)))) (vE 6) (tupE [(kE (.int 9))]))])]) (tupE []) [.va (eW ws), s1, .va (.int t), .va (tu (tu eN) vs), .va (.int w), .va (eI b), .va (eI (fitF b w)), .no] = some (tu eN (verAt ws t w)) := by
    rw [ev_if, c2, Option.bind_some]
    by_cases h1 : t + 1 < ws.length
    · have eb : b = (ws.getD (t + 1) []).reverse := by simp [b, h1]
      have ev : verAt ws t w = [((t : Int) + 1, if (fitF b w).length > 0 then fitF b w else [9])] := by
        unfold verAt
        rw [if_pos h1, fit_F, eb]
      rw [ev]
      have h3 : ((fitF b w).length : Int) > 0 ↔ (fitF b w).length > 0 := by omega
      by_cases h2 : (fitF b w).length > 0
      · simp [h1, h2, pr, tu]
      · simp [h1, h2, pr, tu]
    · simp [verAt, h1, tu]
  rw [ev_sAsg, ev_op, ev_tup, ev_args1, hE]
  simp [e2]
theorem parcelAt_ver (ws : List (List Int)) (t : Nat) : parcelAt ws t = (ws.getD t []).reverse.map (verAt ws t) := rfl
theorem law_parcels_eq (ws : List (List Int)) (h : Wf ws) : F__law_parcels [eW ws] = some (eP (parcels ws)) := by
  have hl := h.l5
  have hr : rgI (kE (.int 0)) (unE lenD (vE 0)) [.va (eW ws), .va (eP []), .no, .no, .no, .no, .no, .no] = some ((List.range ws.length).map fun i : Nat => .int (i : Int)) := by
    rw [rg_ev (x := 0) (y := (ws.length : Int)) (by simp) (by simp) (by omega) (by omega), rangeL_nat]
  obtain ⟨r', q, a2, a3, a4, a5, a6, rfl⟩ := forL_range (tg := .nm 2) (b := blk [(sAsg (.nm 3) (tupE [])), (sFor (seqI (backE (opE ixD (vE 0) (vE 2)) none)) (.nm 4) B_parc_in), (sAsg (.nm 1) (opE addD (vE 1) (tupE [(vE 3)])))]) (fun k r => ∃ a2 a3 a4 a5 a6, r = [.va (eW ws), .va (eP ((List.range k).map (parcelAt ws))), a2, a3, a4, a5, a6, .no]) ws.length [.va (eW ws), .va (eP []), .no, .no, .no, .no, .no, .no] ⟨_, _, _, _, _, rfl⟩ (by
    rintro t r ht ⟨a2, a3, a4, a5, a6, rfl⟩
    have hg : ws[t]? = some (ws.getD t []) := by simp [List.getD, List.getElem?_eq_getElem ht]
    have hm : ws.getD t [] ∈ ws := List.mem_of_getElem? hg
    have hs3 := h.s3 _ hm
    generalize hga : ws.getD t [] = a at *
    obtain ⟨r', q, b4, b5, b6, rfl⟩ := forL_all (e := PyData.int) (tg := .nm 4) (b := B_parc_in) (fun done r => ∃ b4 b5 b6, r = [.va (eW ws), .va (eP ((List.range t).map (parcelAt ws))), .va (.int t), .va (tu (tu eN) (done.map (verAt ws t))), b4, b5, b6, .no]) a.reverse [] [.va (eW ws), .va (eP ((List.range t).map (parcelAt ws))), .va (.int t), .va (tu (tu eN) []), a4, a5, a6, .no] ⟨_, _, _, rfl⟩ (by
      rintro done x rest r hd ⟨b4, b5, b6, rfl⟩
      have hdl : done.length ≤ 3 := by
        have := congrArg List.length hd
        simp at this
        omega
      obtain ⟨c5, c6, e⟩ := parc_body ws h t ht x (done.map (verAt ws t)) (by rw [List.length_map]; omega) (.va (eP ((List.range t).map (parcelAt ws)))) b5 b6 .no
      refine ⟨_, _, rfl, .inl e, .va (.int x), c5, c6, ?_⟩
      rw [List.map_append]
      rfl)
    refine ⟨_, _, rfl, .inl ?_, .va (.int t), .va (tu (tu eN) (parcelAt ws t)), b4, b5, b6, rfl⟩
    refine (blk_nx (r1 := [.va (eW ws), .va (eP ((List.range t).map (parcelAt ws))), .va (.int t), .va (tu (tu eN) []), a4, a5, a6, .no]) rfl).trans ((blk_nx ((for_ev (xs := a.reverse.map .int) (by simp [hg, backL_all])).trans q)).trans ((blk_nx ?_).trans rfl))
    have e1 : addD (eP ((List.range t).map (parcelAt ws))) (.tuple [tu (tu eN) (parcelAt ws t)]) = some (eP ((List.range t).map (parcelAt ws) ++ [parcelAt ws t])) := add_one (e := tu (tu eN)) _ _ (by simp; omega)
    rw [List.nil_append, ← hga, ← parcelAt_ver]
    rw [List.range_succ, List.map_append, List.map_singleton]
    simp [e1])
  exact run_def (r0 := [.va (eW ws), .no, .no, .no, .no, .no, .no, .no]) (z := .rt _) rfl rfl ((blk_nx (r1 := [.va (eW ws), .va (eP []), .no, .no, .no, .no, .no, .no]) rfl).trans ((blk_nx ((for_ev hr).trans q)).trans (ret_ev rfl)))
theorem nums_range : ∀ (ws : List (List Int)) (row : List Int), row.length = ws.length → nums ws row = (List.range ws.length).map fun t => num (ws.getD t []) (row.getD t 0)
  | [], row, _ => by cases row <;> rfl
  | a :: r, [], h => by simp at h
  | a :: r, w :: t, h => by
    rw [nums, nums_range r t (by simpa using h), List.length_cons, List.range_succ_eq_map, List.map_cons, List.map_map]
    rfl
theorem law_numbers_eq (ws : List (List Int)) (h : Wf ws) (row : List Int) (hl : row.length = ws.length) : F__law_numbers [eW ws, eI row] = some (eI (nums ws row)) := by
  have h5 := h.l5
  have hr : rgI (kE (.int 0)) (unE lenD (vE 0)) [.va (eW ws), .va (eI row), .no] = some ((List.range ws.length).map fun i : Nat => .int (i : Int)) := by
    rw [rg_ev (x := 0) (y := (ws.length : Int)) (by simp) (by simp) (by omega) (by omega), rangeL_nat]
  have hm := comp_ev_all (e := fun i : Nat => PyData.int (i : Int)) (f := PyData.int) (own := [2]) (tg := .nm 2) (ts := noT) (el := ifE (trT (opE inD (opE ixD (vE 1) (vE 2)) (opE ixD (vE 0) (vE 2)))) (opE tixD (backE (opE ixD (vE 0) (vE 2)) none) (opE ixD (vE 1) (vE 2))) (opE subD (kE (.int 0)) (kE (.int 1)))) (fun t : Nat => num (ws.getD t []) (row.getD t 0)) hr (by simp; omega) (fun t ht => by
    have ht' := List.mem_range.mp ht
    refine ⟨_, rfl, rfl, ?_⟩
    have g1 : ws[t]? = some (ws.getD t []) := by simp [List.getD, List.getElem?_eq_getElem ht']
    have g2 : row[t]? = some (row.getD t 0) := by simp [List.getD, List.getElem?_eq_getElem (show t < row.length by omega)]
    generalize ws.getD t [] = a at *
    generalize row.getD t 0 = w at *
    by_cases hw : w ∈ a
    · have hx := tixD_tu (e := PyData.int) a.reverse w
      cases hf : a.reverse.findIdx? (fun y => decide (y = w)) with
      | none =>
        rw [List.findIdx?_eq_none_iff] at hf
        have := hf w (List.mem_reverse.mpr hw)
        simp at this
      | some i =>
        rw [hf] at hx
        have hn : num a w = i := by rw [num, hf]
        simp [g1, g2, hw, backL_all, hx, hn]
    · simp [g1, g2, hw, num_none hw])
  refine run_def (r0 := [.va (eW ws), .va (eI row), .no]) (z := .rt _) rfl rfl (ret_ev ?_)
  rw [tupl_ev hm, nums_range ws row hl]
end Dm.M
end

section
set_option Elab.async false
set_option linter.all false
set_option maxRecDepth 100000
set_option maxHeartbeats 1000000
set_option autoImplicit true
/-! K93X5: choices and quarrels of the law's parcels. -/
namespace Dm.M
open PySem PySem.W
theorem pa_parcels {ws : List (List Int)} (h : Wf ws) : Pa (parcels ws) := ⟨fun a ha => by
    obtain ⟨t, ht, rfl⟩ := List.mem_map.mp ha
    have ht' := List.mem_range.mp ht
    rw [parcelAt_len]
    have hm : ws.getD t [] ∈ ws := by simp [List.getD, List.getElem?_eq_getElem ht']
    exact h.s3 _ hm, by rw [parcels_len]; exact h.l5⟩
theorem inside_parcels (ws : List (List Int)) : Inside (parcels ws) (wishes ws) := ⟨fun p hp => by
    obtain ⟨t, ht, rfl⟩ := List.mem_map.mp hp
    have ht' := List.mem_range.mp ht
    rw [parcels_len]
    unfold wish
    exact ⟨by simp only []; omega, by simp only []; omega⟩, fun a ha v hv p hp => by
    obtain ⟨t, ht, rfl⟩ := List.mem_map.mp ha
    rw [parcelAt_ver] at hv
    obtain ⟨w, _, rfl⟩ := List.mem_map.mp hv
    rw [parcels_len]
    unfold verAt at hp
    split at hp
    · have := List.mem_singleton.mp hp
      subst this
      exact ⟨by simp only []; omega, by simp only []; omega⟩
    · cases hp⟩
theorem prodN_congr {α β : Type} : ∀ (xs : List (List α)) (ys : List (List β)), xs.map List.length = ys.map List.length → prodN xs = prodN ys
  | [], [], _ => rfl
  | [], _ :: _, h => by simp at h
  | _ :: _, [], h => by simp at h
  | a :: r, b :: s, h => by
    simp only [List.map_cons, List.cons.injEq] at h
    rw [prodN, prodN, h.1, prodN_congr r s h.2]
theorem prodN_parcels (ws : List (List Int)) : prodN (parcels ws) = prodN ws := prodN_congr _ _ (by
  apply List.ext_getElem
  · simp [parcels_len]
  · intro i h1 h2
    simp at h1 h2
    simp only [List.getElem_map, parcels, List.getElem_range, parcelAt_len]
    simp [List.getD, List.getElem?_eq_getElem h2])
theorem cf_nil (ps : List (List (List Need))) (S : List Need) : cf ps S [] = (prodN ps).filter (isChoice ps S) := by simp [cf]
theorem cf_paths {ws : List (List Int)} (h : Wf ws) {S : List Need} (hS : ∀ p ∈ S, ∃ t, t < ws.length ∧ p = wish ws t) (h0 : ws ≠ [] → wish ws 0 ∈ S) : cf (parcels ws) S [] = (paths none ws).map (nums ws) := by
  rw [cf_nil, prodN_parcels, ← prod_paths ws none fun a ha => h.nd ha]
  congr 1
  funext ns
  exact choice_chk ws (fun a ha => by have := h.s3 a ha; omega) S hS h0 ns
theorem wishes_all (ws : List (List Int)) : ∀ p ∈ wishes ws, ∃ t, t < ws.length ∧ p = wish ws t := fun p hp => by
  obtain ⟨t, ht, rfl⟩ := List.mem_map.mp hp
  exact ⟨t, List.mem_range.mp ht, rfl⟩
theorem wishes_0 (ws : List (List Int)) : ws ≠ [] → wish ws 0 ∈ wishes ws := fun h => List.mem_map_of_mem (List.mem_range.mpr (List.length_pos_iff.mpr h))
theorem wishes_len (ws : List (List Int)) : (wishes ws).length = ws.length := by simp [wishes]
/-- a choice by these numbers is a duty by these wardens -/
theorem choice_row {ws : List (List Int)} (h : Wf ws) (row : List Int) (hl : row.length = ws.length) : isChoice (parcels ws) (wishes ws) (nums ws row) = decide (row ∈ paths none ws) := by
  rw [choice_chk ws (fun a ha => by have := h.s3 a ha; omega) _ (wishes_all ws) (wishes_0 ws), chk_nums ws none row hl]
theorem choice_less {ps : List (List (List Need))} {S T : List Need} {ns : List Int} (h : ∀ p ∈ T, p ∈ S) (hc : isChoice ps S ns = true) : isChoice ps T ns = true := by
  unfold isChoice at *
  simp only [Bool.and_eq_true] at *
  refine ⟨⟨hc.1.1, ?_⟩, hc.2⟩
  unfold areMet at *
  rw [List.all_eq_true] at *
  exact fun p hp => (List.all_eq_true.mp hc.1.2) p (h p hp)
theorem quarrel_none {ws : List (List Int)} (h : Wf ws) {row : List Int} (hr : row ∈ paths none ws) : (lexS (rgi (wishes ws).length)).find? (isQ (parcels ws) (wishes ws)) = none := by
  rw [List.find?_eq_none]
  intro t ht
  have hw : Within (wishes ws).length t := fun i hi => mem_rgi.mp (((mem_lexS _ t).mp ht).subset hi)
  have hl : row.length = ws.length := ((mem_paths _ _ _).mp hr).1.length
  have hc : isChoice (parcels ws) (sub (wishes ws) t) (nums ws row) = true := choice_less (fun p hp => sub_mem hw hp) (by rw [choice_row h row hl]; exact decide_eq_true hr)
  have : has (parcels ws) (wishes ws) t = true := by
    unfold has
    rw [ne_mem]
    refine ⟨nums ws row, ?_⟩
    rw [cf_nil, prodN_parcels, List.mem_filter]
    exact ⟨nums_prod ws row (fun a ha => h.nd ha) hl, hc⟩
  unfold isQ
  rw [this]
  simp
theorem quarrel_first {ws : List (List Int)} (h : Wf ws) (h0 : ws ≠ []) (hr : paths none ws = []) : (lexS (rgi (wishes ws).length)).find? (isQ (parcels ws) (wishes ws)) = some [0] := by
  have e0 : has (parcels ws) (wishes ws) [] = true := by
    unfold has
    rw [ne_mem]
    refine ⟨List.replicate ws.length (-1), ?_⟩
    rw [cf_nil, prodN_parcels, List.mem_filter]
    exact ⟨mem_prod ws, choice_none ws⟩
  have hl : 0 < ws.length := List.length_pos_iff.mpr h0
  have e1 : has (parcels ws) (wishes ws) [0] = false := by
    have es : sub (wishes ws) [0] = [wish ws 0] := by simp [sub, wishes, hl]
    unfold has
    rw [es, cf_paths h (fun p hp => ⟨0, hl, List.mem_singleton.mp hp⟩) (fun _ => List.mem_singleton.mpr rfl), hr]
    rfl
  have q0 : isQ (parcels ws) (wishes ws) [] = false := by
    unfold isQ
    rw [e0]
    rfl
  have q1 : isQ (parcels ws) (wishes ws) [0] = true := by
    unfold isQ
    have : fewer [0] = [[]] := by simp [fewer]
    rw [e1, this]
    simp [e0]
  obtain ⟨n, hn⟩ : ∃ n, ws.length = n + 1 := ⟨ws.length - 1, by omega⟩
  have er : ∃ r, rgi (wishes ws).length = 0 :: r := by
    rw [wishes_len, hn]
    refine ⟨(List.range n).map fun i : Nat => ((i + 1 : Nat) : Int), ?_⟩
    unfold rgi
    rw [List.range_succ_eq_map]
    simp
  obtain ⟨r, er⟩ := er
  obtain ⟨u, hu⟩ := lexS_head r
  rw [er, lexS, hu, List.map_cons, List.cons_append, List.find?_cons_of_neg (by simp [q0]), List.find?_cons_of_pos q1]
theorem adj_paths (ws : List (List Int)) (row : List Int) (hl : row.length = ws.length) : isDuty ws row = decide (row ∈ paths none ws) := by
  have ha : adj row = adjR row := by
    unfold adj
    rw [Bool.eq_iff_iff, List.all_eq_true]
    clear hl
    induction row with
    | nil => simp [adjR]
    | cons a r ih =>
      cases r with
      | nil => simp [adjR]
      | cons b r =>
        rw [adjR, Bool.and_eq_true, ← ih]
        constructor
        · intro k
          refine ⟨by simpa using k 0 (by simp), fun i hi => ?_⟩
          have := k (i + 1) (by simp at hi ⊢; omega)
          simpa using this
        · rintro ⟨k1, k2⟩ i hi
          cases i with
          | zero => simpa using k1
          | succ i =>
            have := k2 i (by simp at hi ⊢; omega)
            simpa using this
  have hz : ((row.zip ws).all fun p => decide (p.1 ∈ p.2)) = true ↔ In2 row ws := by
    clear ha
    induction row generalizing ws with
    | nil =>
      cases ws with
      | nil => exact ⟨fun _ => .nil, fun _ => rfl⟩
      | cons a r => simp at hl
    | cons w t ih =>
      cases ws with
      | nil => simp at hl
      | cons a r =>
        rw [List.zip_cons_cons, List.all_cons, Bool.and_eq_true, ih r (by simpa using hl)]
        constructor
        · rintro ⟨k1, k2⟩
          exact .cons (by simpa using k1) k2
        · intro k
          cases k with
          | cons k1 k2 => exact ⟨by simpa using k1, k2⟩
  rw [Bool.eq_iff_iff]
  unfold isDuty
  rw [ha, Bool.and_eq_true, Bool.and_eq_true, hz, decide_eq_true_eq, decide_eq_true_eq, mem_paths]
  exact ⟨fun k => ⟨k.1.2, k.2⟩, fun k => ⟨⟨hl, k.1⟩, k.2⟩⟩
end Dm.M
end

section
set_option Elab.async false
set_option linter.all false
set_option maxRecDepth 100000
set_option maxHeartbeats 1000000
set_option autoImplicit true
/-! K93X6: _law_chosen, the turns. -/
namespace Dm.M
open PySem PySem.W
abbrev eR : List (List Int) → D := li (tu .int)
abbrev optRow (ws : List (List Int)) : Option (List Int) := (paths none ws).head?.map (nums ws)
abbrev envC (ws : List (List Int)) (dr : List Int) (s6 s7 s8 s9 s10 s11 s12 s13 : Slot) : Env := [.va (eW ws), .va (eR (paths none ws)), .va (li .int dr), .va (eP (parcels ws)), .va (eNs (wishes ws)), .va (optI (optRow ws)), s6, s7, s8, s9, s10, s11, s12, s13]
def B_pick : S := blk [(sAsg (.nm 7) (opE addD (vE 7) (tupE [(opE ixD (opE ixD (vE 0) (vE 8)) (opE modD (unE intD (opE fdivD (opE ixD (vE 2) (vE 6)) (opE ixD (tupE [(kE (.int 1)), (kE (.int 2)), (kE (.int 3)), (kE (.int 5)), (kE (.int 7))]) (vE 8)))) (unE lenD (opE ixD (vE 0) (vE 8)))))])))]
theorem pick_ev (ws : List (List Int)) (h : Wf ws) (he : ∀ a ∈ ws, a ≠ []) (dr : List Int) (hd : 7 ≤ dr.length) (k : Nat) (hk : k < 5) (s8 s9 s10 s11 s12 s13 : Slot) :
    ∃ row s8', row.length = ws.length ∧ sFor (rgI (kE (.int 0)) (unE lenD (vE 0))) (.nm 8) B_pick (envC ws dr (.va (.int k)) (.va (eI [])) s8 s9 s10 s11 s12 s13) = some (.nx (envC ws dr (.va (.int k)) (.va (eI row)) s8' s9 s10 s11 s12 s13)) := by
  have hl := h.l5
  have hr : rgI (kE (.int 0)) (unE lenD (vE 0)) (envC ws dr (.va (.int k)) (.va (eI [])) s8 s9 s10 s11 s12 s13) = some ((List.range ws.length).map fun i : Nat => .int (i : Int)) := by
    rw [rg_ev (x := 0) (y := (ws.length : Int)) (by simp) (by simp) (by omega) (by omega), rangeL_nat]
  obtain ⟨d, hdk⟩ : ∃ d, dr[k]? = some d := ⟨_, List.getElem?_eq_getElem (show k < dr.length by omega)⟩
  obtain ⟨r', q, row, s8', h1, rfl⟩ := forL_range (tg := .nm 8) (b := B_pick) (fun t r => ∃ row s8', row.length = t ∧ r = envC ws dr (.va (.int k)) (.va (eI row)) s8' s9 s10 s11 s12 s13) ws.length _ ⟨[], s8, rfl, rfl⟩ (by
    rintro t r ht ⟨row, s8', h1, rfl⟩
    obtain ⟨a, ha⟩ : ∃ a, ws[t]? = some a := ⟨_, List.getElem?_eq_getElem ht⟩
    have hm := List.mem_of_getElem? ha
    have hpos : 0 < a.length := List.length_pos_iff.mpr (he a hm)
    have h5 : ∃ m : Int, m ≠ 0 ∧ m.natAbs < 1073741824 ∧ opE ixD (tupE [(kE (.int 1)), (kE (.int 2)), (kE (.int 3)), (kE (.int 5)), (kE (.int 7))]) (vE 8) (envC ws dr (.va (.int k)) (.va (eI row)) (.va (.int t)) s9 s10 s11 s12 s13) = some (.int m) := by
      have ht5 : t < 5 := by omega
      rcases t with _ | _ | _ | _ | _ | t
      · exact ⟨1, by decide, by decide, by simp⟩
      · exact ⟨2, by decide, by decide, by simp⟩
      · exact ⟨3, by decide, by decide, by simp [atL]⟩
      · exact ⟨5, by decide, by decide, by simp [atL]⟩
      · exact ⟨7, by decide, by decide, by simp [atL]⟩
      · omega
    obtain ⟨m, m1, m2, m3⟩ := h5
    obtain ⟨g1, g2⟩ := fmod_in (d.fdiv m) hpos
    obtain ⟨w, hw, _⟩ := atL_some g1 g2
    refine ⟨_, _, rfl, .inl ?_, row ++ [w], .va (.int t), by simp [h1], rfl⟩
    refine (blk_nx ?_).trans rfl
    have e1 : opE modD (unE intD (opE fdivD (opE ixD (vE 2) (vE 6)) (opE ixD (tupE [(kE (.int 1)), (kE (.int 2)), (kE (.int 3)), (kE (.int 5)), (kE (.int 7))]) (vE 8)))) (unE lenD (opE ixD (vE 0) (vE 8))) (envC ws dr (.va (.int k)) (.va (eI row)) (.va (.int t)) s9 s10 s11 s12 s13) = some (.int ((d.fdiv m).fmod (a.length : Int))) := by
      rw [ev_op, ev_un, ev_op, m3]
      simp [hdk, fdivD_ok d m ⟨m1, m2⟩, ha, modD_ok _ (a.length : Int) (by omega)]
    show sAsg (.nm 7) _ (envC ws dr (.va (.int k)) (.va (eI row)) (.va (.int t)) s9 s10 s11 s12 s13) = _
    rw [ev_sAsg, ev_op, ev_tup, ev_args1, ev_op, e1]
    simp [ha, hw, add_one (e := PyData.int) row w (by omega)])
  exact ⟨row, s8', h1, (for_ev hr).trans q⟩
theorem row_len {ws : List (List Int)} {row : List Int} (h : row ∈ paths none ws) : row.length = ws.length := ((mem_paths _ _ _).mp h).1.length
def T_first : S := sIf (andT (trT (opE eqD (vE 6) (kE (.int 0)))) (trT (opE gtD (unE lenD (vE 1)) (kE (.int 0))))) (blk [(sAsg (.nm 7) (opE ixD (vE 1) (opE modD (unE intD (opE ixD (vE 2) (kE (.int 5)))) (unE lenD (vE 1)))))]) (blk [])
theorem first_ev (ws : List (List Int)) (dr : List Int) (hd : 7 ≤ dr.length) (k : Nat) (row : List Int) (h : row.length = ws.length) (s8 s9 s10 s11 s12 s13 : Slot) :
    ∃ row', row'.length = ws.length ∧ T_first (envC ws dr (.va (.int k)) (.va (eI row)) s8 s9 s10 s11 s12 s13) = some (.nx (envC ws dr (.va (.int k)) (.va (eI row')) s8 s9 s10 s11 s12 s13)) := by
  obtain ⟨d, hdk⟩ : ∃ d, dr[5]? = some d := ⟨_, List.getElem?_eq_getElem (show 5 < dr.length by omega)⟩
  by_cases hc : k = 0 ∧ 0 < (paths none ws).length
  · obtain ⟨g1, g2⟩ := fmod_in d hc.2
    obtain ⟨w, hw, hm⟩ := atL_some g1 g2
    refine ⟨w, row_len hm, ?_⟩
    have a5 : atL dr 5 = some d := hdk
    have hne : ¬ ((paths none ws).length : Int) = 0 := by omega
    have hk : (k : Int) = 0 := by omega
    have hpos : ((paths none ws).length : Int) > 0 := by omega
    unfold T_first
    rw [if_t (by simp [hk, hc.2])]
    simp [a5, modD_ok d ((paths none ws).length : Int) hne, hw]
  · refine ⟨row, h, ?_⟩
    unfold T_first
    rw [if_f ?_]
    · rfl
    · by_cases hk : k = 0
      · have : ¬ 0 < (paths none ws).length := fun z => hc ⟨hk, z⟩
        have h2 : ¬ ((paths none ws).length : Int) > 0 := by omega
        have hp0 : paths none ws = [] := List.eq_nil_of_length_eq_zero (by omega)
        simp [hk, hp0]
      · simp only [ev_and, ev_tr, ev_op, ev_v, ev_k, List.getElem?_cons_succ, List.getElem?_cons_zero, Option.bind_some, eqD_int, truD_bool]
        have : ¬ (k : Int) = 0 := by omega
        simp only [this, decide_false, Bool.false_eq_true, if_false]
def T_second : S := sIf (andT (trT (opE eqD (vE 6) (kE (.int 1)))) (andT (trT (opE gtD (unE lenD (vE 1)) (kE (.int 0)))) (trT (opE gtD (unE lenD (vE 0)) (kE (.int 0)))))) (blk [(sAsg (.nm 9) (opE modD (unE intD (opE ixD (vE 2) (kE (.int 6)))) (opE max2 (kE (.int 1)) (unE lenD (vE 0))))), (sAsg (.nm 7) (opE addD (opE addD (cutE (opE ixD (vE 1) (unE negD (kE (.int 1)))) none (some (vE 9))) (tupE [(kE (.int 9))])) (cutE (opE ixD (vE 1) (unE negD (kE (.int 1)))) (some (opE addD (vE 9) (kE (.int 1)))) none)))]) (blk [])
theorem second_ev (ws : List (List Int)) (h5 : ws.length ≤ 5) (dr : List Int) (hd : 7 ≤ dr.length) (k : Nat) (row : List Int) (h : row.length = ws.length) (s8 s9 s10 s11 s12 s13 : Slot) :
    ∃ row' s9', row'.length = ws.length ∧ T_second (envC ws dr (.va (.int k)) (.va (eI row)) s8 s9 s10 s11 s12 s13) = some (.nx (envC ws dr (.va (.int k)) (.va (eI row')) s8 s9' s10 s11 s12 s13)) := by
  obtain ⟨d, hdk⟩ : ∃ d, dr[6]? = some d := ⟨_, List.getElem?_eq_getElem (show 6 < dr.length by omega)⟩
  by_cases hc : k = 1 ∧ 0 < (paths none ws).length ∧ 0 < ws.length
  · obtain ⟨g1, g2⟩ := fmod_in d hc.2.2
    obtain ⟨t, ht⟩ : ∃ t : Nat, d.fmod (ws.length : Int) = t := ⟨(d.fmod (ws.length : Int)).toNat, by omega⟩
    obtain ⟨w, hw⟩ : ∃ w, (paths none ws).getLast? = some w := by
      cases hp : paths none ws with
      | nil => rw [hp] at hc; simp at hc
      | cons x xs => exact ⟨_, List.getLast?_eq_some_getLast (List.cons_ne_nil x xs)⟩
    have hwl := row_len (List.mem_of_getLast? hw)
    have a6 : atL dr 6 = some d := hdk
    have hne : ¬ (ws.length : Int) = 0 := by omega
    have hk : (k : Int) = 1 := by omega
    have hmax : max2 (.int 1) (.int (ws.length : Int)) = some (.int (ws.length : Int)) := by
      show some (PyData.int (if (ws.length : Int) > 1 then (ws.length : Int) else 1)) = _
      by_cases h1 : (ws.length : Int) > 1
      · rw [if_pos h1]
      · rw [if_neg h1]
        have : (ws.length : Int) = 1 := by omega
        rw [this]
    have s1 : sAsg (.nm 9) (opE modD (unE intD (opE ixD (vE 2) (kE (.int 6)))) (opE max2 (kE (.int 1)) (unE lenD (vE 0)))) (envC ws dr (.va (.int k)) (.va (eI row)) s8 s9 s10 s11 s12 s13) = some (.nx (envC ws dr (.va (.int k)) (.va (eI row)) s8 (.va (.int t)) s10 s11 s12 s13)) := by
      simp [a6, hmax, modD_ok d (ws.length : Int) hne, ht]
    have hcut2 : cutL w (some ((t : Int) + 1)) none = w.drop (t + 1) := cutL_from w (t + 1)
    have s2 : sAsg (.nm 7) (opE addD (opE addD (cutE (opE ixD (vE 1) (unE negD (kE (.int 1)))) none (some (vE 9))) (tupE [(kE (.int 9))])) (cutE (opE ixD (vE 1) (unE negD (kE (.int 1)))) (some (opE addD (vE 9) (kE (.int 1)))) none)) (envC ws dr (.va (.int k)) (.va (eI row)) s8 (.va (.int t)) s10 s11 s12 s13) = some (.nx (envC ws dr (.va (.int k)) (.va (eI (w.take t ++ [9] ++ w.drop (t + 1)))) s8 (.va (.int t)) s10 s11 s12 s13)) := by
      have b1 : addD (eI (w.take t)) (.tuple [.int 9]) = some (eI (w.take t ++ [9])) := add_one (e := PyData.int) _ _ (by rw [List.length_take]; omega)
      have b2 : addD (eI (w.take t ++ [9])) (eI (w.drop (t + 1))) = some (eI (w.take t ++ [9] ++ w.drop (t + 1))) := addD_tu _ _ (by simp; omega)
      simp only [ev_sAsg, ev_op, ev_un, ev_v, ev_k, ev_cut, ev_part0, ev_part1, ev_tup, ev_args1, ev_args0, List.getElem?_cons_zero, List.getElem?_cons_succ, Option.bind_some, negD_int, ixD_li, atL_last, hw, Option.map_some, cutD_tu, cutL_to, addD_int, hcut2, b1, b2, ev_asg1, List.set_cons_succ, List.set_cons_zero]
    refine ⟨w.take t ++ [9] ++ w.drop (t + 1), .va (.int t), by simp; omega, ?_⟩
    unfold T_second
    rw [if_t (by simp [hk, hc.2.1, hc.2.2])]
    exact (blk_nx s1).trans ((blk_nx s2).trans rfl)
  · refine ⟨row, s9, h, ?_⟩
    unfold T_second
    rw [if_f ?_]
    · rfl
    · by_cases hk : k = 1
      · by_cases hp : 0 < (paths none ws).length
        · have hz : ¬ 0 < ws.length := fun z => hc ⟨hk, hp, z⟩
          have hw0 : ws = [] := List.eq_nil_of_length_eq_zero (by omega)
          simp [hk, hw0]
        · have hp0 : paths none ws = [] := List.eq_nil_of_length_eq_zero (by omega)
          simp [hk, hp0]
      · have : ¬ (k : Int) = 1 := by omega
        simp [this]
end Dm.M
end

section
set_option Elab.async false
set_option linter.all false
set_option maxRecDepth 100000
set_option maxHeartbeats 1000000
set_option autoImplicit true
/-! K93X7: _law_chosen answers True. -/
namespace Dm.M
open PySem PySem.W
def B_turn : S := (blk [(sAsg (.nm 7) (tupE [])), (sFor (rgI (kE (.int 0)) (unE lenD (vE 0))) (.nm 8) B_pick), T_first, T_second, (sAsg (.nm 10) (opE inD (vE 7) (vE 1))), (sAsg (.nm 11) (callE F__law_numbers [(vE 0), (vE 7)])), (sIf (orT (notT (trT (callE F__law_is [(callE F_is_duty [(vE 0), (vE 7)]), (vE 10)]))) (notT (trT (callE F__law_is [(callE F_is_choice [(vE 3), (vE 4), (vE 11)]), (vE 10)])))) (blk [(sRet (kE (.bool false)))]) (blk []))])
theorem turn_ok (ws : List (List Int)) (h : Wf ws) (he : ∀ a ∈ ws, a ≠ []) (dr : List Int) (hd : 7 ≤ dr.length) (k : Nat) (hk : k < 5) (s7 s8 s9 s10 s11 s12 s13 : Slot) :
    ∃ s7' s8' s9' s10' s11', B_turn (envC ws dr (.va (.int k)) s7 s8 s9 s10 s11 s12 s13) = some (.nx (envC ws dr (.va (.int k)) s7' s8' s9' s10' s11' s12 s13)) := by
  have h5 := h.l5
  obtain ⟨r1, t8, l1, e1⟩ := pick_ev ws h he dr hd k hk s8 s9 s10 s11 s12 s13
  obtain ⟨r2, l2, e2⟩ := first_ev ws dr hd k r1 l1 t8 s9 s10 s11 s12 s13
  obtain ⟨r3, t9, l3, e3⟩ := second_ev ws h5 dr hd k r2 l2 t8 s9 s10 s11 s12 s13
  have e4 : sAsg (.nm 10) (opE inD (vE 7) (vE 1)) (envC ws dr (.va (.int k)) (.va (eI r3)) t8 t9 s10 s11 s12 s13) = some (.nx (envC ws dr (.va (.int k)) (.va (eI r3)) t8 t9 (.va (.bool (decide (r3 ∈ paths none ws)))) s11 s12 s13)) := by
    simp
  have e5 : sAsg (.nm 11) (callE F__law_numbers [(vE 0), (vE 7)]) (envC ws dr (.va (.int k)) (.va (eI r3)) t8 t9 (.va (.bool (decide (r3 ∈ paths none ws)))) s11 s12 s13) = some (.nx (envC ws dr (.va (.int k)) (.va (eI r3)) t8 t9 (.va (.bool (decide (r3 ∈ paths none ws)))) (.va (eI (nums ws r3))) s12 s13)) := by
    rw [ev_sAsg, call2 (F := F__law_numbers) (a := vE 0) (b := vE 7) (x := eW ws) (y := eI r3) rfl rfl (law_numbers_eq ws h r3 l3)]
    rfl
  have d1 := is_duty_eq ws r3 (by omega)
  rw [adj_paths ws r3 l3] at d1
  have d2 := is_choice_eq (parcels ws) (wishes ws) (inside_parcels ws) (nums ws r3)
  rw [choice_row h r3 l3] at d2
  have e6 : orT (notT (trT (callE F__law_is [(callE F_is_duty [(vE 0), (vE 7)]), (vE 10)]))) (notT (trT (callE F__law_is [(callE F_is_choice [(vE 3), (vE 4), (vE 11)]), (vE 10)]))) (envC ws dr (.va (.int k)) (.va (eI r3)) t8 t9 (.va (.bool (decide (r3 ∈ paths none ws)))) (.va (eI (nums ws r3))) s12 s13) = some false := by
    have c1 := call2 (F := F__law_is) (a := callE F_is_duty [(vE 0), (vE 7)]) (b := vE 10) (r := envC ws dr (.va (.int k)) (.va (eI r3)) t8 t9 (.va (.bool (decide (r3 ∈ paths none ws)))) (.va (eI (nums ws r3))) s12 s13) (call2 (x := eW ws) (y := eI r3) rfl rfl d1) rfl (is_bool _)
    have c2 := call2 (F := F__law_is) (a := callE F_is_choice [(vE 3), (vE 4), (vE 11)]) (b := vE 10) (r := envC ws dr (.va (.int k)) (.va (eI r3)) t8 t9 (.va (.bool (decide (r3 ∈ paths none ws)))) (.va (eI (nums ws r3))) s12 s13) (call3 (x := eP (parcels ws)) (y := eNs (wishes ws)) (w := eI (nums ws r3)) rfl rfl rfl d2) rfl (is_bool _)
    rw [ev_or, ev_not, ev_tr, c1, ev_not, ev_tr, c2]
    simp
  exact ⟨_, _, _, _, _, (blk_nx (r1 := envC ws dr (.va (.int k)) (.va (eI [])) s8 s9 s10 s11 s12 s13) rfl).trans ((blk_nx e1).trans ((blk_nx e2).trans ((blk_nx e3).trans ((blk_nx e4).trans ((blk_nx e5).trans ((blk_if e6).trans rfl))))))⟩
theorem wish_ev (ws : List (List Int)) (h : Wf ws) (s1 s2 s3 s4 s5 s6 s7 s9 s10 s11 s12 s13 : Slot) :
    tupI (seqI (lstI (compI [8] (rgI (kE (.int 0)) (unE lenD (vE 0))) (.nm 8) noT (tupE [(vE 8), (tupI (rgI' (kE (.int 0)) (unE lenD (opE ixD (vE 0) (vE 8)))))])))) [.va (eW ws), s1, s2, s3, s4, s5, s6, s7, .no, s9, s10, s11, s12, s13] = some (eNs (wishes ws)) := by
  have h5 := h.l5
  have hr : rgI (kE (.int 0)) (unE lenD (vE 0)) [.va (eW ws), s1, s2, s3, s4, s5, s6, s7, .no, s9, s10, s11, s12, s13] = some ((List.range ws.length).map fun i : Nat => .int (i : Int)) := by
    rw [rg_ev (x := 0) (y := (ws.length : Int)) (by simp) (by simp) (by omega) (by omega), rangeL_nat]
  refine tupl_ev (comp_ev_all (e := fun i : Nat => PyData.int (i : Int)) (f := eN) (wish ws) hr (by simp; omega) fun t ht => ?_)
  have ht' := List.mem_range.mp ht
  obtain ⟨a, ha⟩ : ∃ a, ws[t]? = some a := ⟨_, List.getElem?_eq_getElem ht'⟩
  have h3 := h.s3 a (List.mem_of_getElem? ha)
  have hg : ws.getD t [] = a := by simp [List.getD, ha]
  refine ⟨_, rfl, rfl, ?_⟩
  have hr2 : rgI (kE (.int 0)) (unE lenD (opE ixD (vE 0) (vE 8))) [.va (eW ws), s1, s2, s3, s4, s5, s6, s7, .va (.int t), s9, s10, s11, s12, s13] = some ((List.range a.length).map fun i : Nat => .int (i : Int)) := by
    rw [rg_ev (x := 0) (y := (a.length : Int)) (by simp) (by simp [ha]) (by omega) (by omega), rangeL_nat]
  have e : wish ws t = ((t : Int), (List.range a.length).map fun s : Nat => (s : Int)) := by
    unfold wish
    rw [hg]
  show tupE [(vE 8), (tupI (rgI' (kE (.int 0)) (unE lenD (opE ixD (vE 0) (vE 8)))))] [.va (eW ws), s1, s2, s3, s4, s5, s6, s7, .va (.int t), s9, s10, s11, s12, s13] = _
  rw [ev_tup, ev_args1, ev_args1, ev_tupI, ev_rg', hr2, Option.bind_some, fitL_ok (by simp; omega), e]
  simp [pr, tu]
def B_total : S := blk [(sAsg (.nm 12) (opE mulI (vE 12) (opE addD (unE lenD (vE 13)) (kE (.int 1)))))]
theorem chosen_eq (ws : List (List Int)) (h : Wf ws) (he : ∀ a ∈ ws, a ≠ []) (dr : List Int) (hd : 7 ≤ dr.length) : F__law_chosen [eW ws, eR (paths none ws), li .int dr] = some (.bool true) := by
  have h5 := h.l5
  have hcf := cf_paths h (wishes_all ws) (wishes_0 ws)
  have eh : (cf (parcels ws) (wishes ws) []).head? = optRow ws := by rw [hcf, List.head?_map]
  have e1 : sAsg (.nm 3) (callE F__law_parcels [(vE 0)]) [.va (eW ws), .va (eR (paths none ws)), .va (li .int dr), .no, .no, .no, .no, .no, .no, .no, .no, .no, .no, .no] = some (.nx [.va (eW ws), .va (eR (paths none ws)), .va (li .int dr), .va (eP (parcels ws)), .no, .no, .no, .no, .no, .no, .no, .no, .no, .no]) := by
    rw [ev_sAsg, call1 (x := eW ws) rfl (law_parcels_eq ws h)]
    rfl
  have e2 : sAsg (.nm 4) (tupI (seqI (lstI (compI [8] (rgI (kE (.int 0)) (unE lenD (vE 0))) (.nm 8) noT (tupE [(vE 8), (tupI (rgI' (kE (.int 0)) (unE lenD (opE ixD (vE 0) (vE 8)))))]))))) [.va (eW ws), .va (eR (paths none ws)), .va (li .int dr), .va (eP (parcels ws)), .no, .no, .no, .no, .no, .no, .no, .no, .no, .no] = some (.nx [.va (eW ws), .va (eR (paths none ws)), .va (li .int dr), .va (eP (parcels ws)), .va (eNs (wishes ws)), .no, .no, .no, .no, .no, .no, .no, .no, .no]) := by
    rw [ev_sAsg, wish_ev ws h]
    rfl
  have hlen : ∀ x xs, paths none ws = x :: xs → trT (opE gtD (unE lenD (vE 1)) (kE (.int 0))) = trT (opE gtD (unE lenD (vE 1)) (kE (.int 0))) := fun _ _ _ => rfl
  have e3 : sAsg (.nm 5) (ifE (trT (opE gtD (unE lenD (vE 1)) (kE (.int 0)))) (callE F__law_numbers [(vE 0), (opE ixD (vE 1) (kE (.int 0)))]) (kE .none)) [.va (eW ws), .va (eR (paths none ws)), .va (li .int dr), .va (eP (parcels ws)), .va (eNs (wishes ws)), .no, .no, .no, .no, .no, .no, .no, .no, .no] = some (.nx (envC ws dr .no .no .no .no .no .no .no .no)) := by
    rw [ev_sAsg, ev_if]
    cases hp : paths none ws with
    | nil => simp [envC, optRow, hp, optI]
    | cons x xs =>
      have hx : x.length = ws.length := row_len (by rw [hp]; exact List.mem_cons_self)
      have c := call2 (F := F__law_numbers) (a := vE 0) (b := opE ixD (vE 1) (kE (.int 0))) (r := [.va (eW ws), .va (eR (x :: xs)), .va (li .int dr), .va (eP (parcels ws)), .va (eNs (wishes ws)), .no, .no, .no, .no, .no, .no, .no, .no, .no]) (x := eW ws) (y := eI x) rfl (by simp) (law_numbers_eq ws h x hx)
      have hpos : trT (opE gtD (unE lenD (vE 1)) (kE (.int 0))) [.va (eW ws), .va (eR (x :: xs)), .va (li .int dr), .va (eP (parcels ws)), .va (eNs (wishes ws)), .no, .no, .no, .no, .no, .no, .no, .no, .no] = some true := by
        simp
      rw [hpos, Option.bind_some, if_pos rfl, c]
      simp [envC, optRow, hp, optI]
  have e4 : orT (notT (trT (callE F__law_is [(callE F_told_choice [(vE 3), (vE 4)]), (vE 5)]))) (notT (trT (callE F__law_is [(callE F_number_of_choices [(vE 3), (vE 4)]), (unE lenD (vE 1))]))) (envC ws dr .no .no .no .no .no .no .no .no) = some false := by
    have d1 := told_choice_eq (pa_parcels h) (inside_parcels ws)
    rw [eh] at d1
    have d2 := number_of_choices_eq (pa_parcels h) (inside_parcels ws)
    rw [hcf, List.length_map] at d2
    have c1 := call2 (F := F__law_is) (a := callE F_told_choice [(vE 3), (vE 4)]) (b := vE 5) (r := envC ws dr .no .no .no .no .no .no .no .no) (call2 (x := eP (parcels ws)) (y := eNs (wishes ws)) rfl rfl d1) rfl (is_opt (optRow ws) (fun r hr => by
      unfold optRow at hr
      obtain ⟨x, hx, rfl⟩ := Option.map_eq_some_iff.mp hr
      have hxl : x.length = ws.length := row_len (List.mem_of_mem_head? hx)
      rw [nums_range ws x hxl]
      simp
      omega))
    have c2 := call2 (F := F__law_is) (a := callE F_number_of_choices [(vE 3), (vE 4)]) (b := unE lenD (vE 1)) (r := envC ws dr .no .no .no .no .no .no .no .no) (call2 (x := eP (parcels ws)) (y := eNs (wishes ws)) rfl rfl d2) (by simp) (is_int _)
    rw [ev_or, ev_not, ev_tr, c1, ev_not, ev_tr, c2]
    simp
  have hr5 : rgI (kE (.int 0)) (kE (.int 5)) (envC ws dr .no .no .no .no .no .no .no .no) = some ((List.range 5).map fun i : Nat => .int (i : Int)) := by
    rw [rg_ev (x := 0) (y := 5) rfl rfl (by omega) (by omega)]
    exact congrArg some (rangeL_nat 5)
  obtain ⟨r', q5, s6, s7, s8, s9, s10, s11, rfl⟩ := forL_range (tg := .nm 6) (b := B_turn) (fun k r => ∃ s6 s7 s8 s9 s10 s11, r = envC ws dr s6 s7 s8 s9 s10 s11 .no .no) 5 (envC ws dr .no .no .no .no .no .no .no .no) ⟨_, _, _, _, _, _, rfl⟩ (by
    rintro k r hk ⟨s6, s7, s8, s9, s10, s11, rfl⟩
    obtain ⟨t7, t8, t9, t10, t11, e⟩ := turn_ok ws h he dr hd k hk s7 s8 s9 s10 s11 .no .no
    exact ⟨_, _, rfl, .inl e, _, _, _, _, _, _, rfl⟩)
  obtain ⟨r', q6, z, s13, rfl⟩ := forL_all (e := tu PyData.int) (tg := .nm 13) (b := B_total) (fun done r => ∃ (z : Int) (s13 : Slot), r = envC ws dr s6 s7 s8 s9 s10 s11 (.va (.int z)) s13) ws [] (envC ws dr s6 s7 s8 s9 s10 s11 (.va (.int 1)) .no) ⟨_, _, rfl⟩ (by
    rintro done x rest r hdn ⟨z, s13, rfl⟩
    have hx : x ∈ ws := by
      have hdn' : ws = done ++ x :: rest := hdn
      rw [hdn']
      simp
    have := h.s3 x hx
    refine ⟨_, _, rfl, .inl ?_, z * ((x.length : Int) + 1), .va (eI x), rfl⟩
    refine (blk_nx ?_).trans rfl
    simp [mulI_ok z ((x.length : Int) + 1) (by omega)])
  have e8 : ∀ b, callE F__law_is [(callE F_told_quarrel [(vE 3), (vE 4)]), (ifE (trT (opE gtD (unE lenD (vE 1)) (kE (.int 0)))) (kE .none) (tupE [(kE (.int 0))]))] (envC ws dr s6 s7 s8 s9 s10 s11 (.va (.int z)) s13) = some b → b = .bool true → True := fun _ _ _ => trivial
  refine run_def (r0 := [.va (eW ws), .va (eR (paths none ws)), .va (li .int dr), .no, .no, .no, .no, .no, .no, .no, .no, .no, .no, .no]) (z := .rt (.bool true)) rfl rfl ((blk_nx e1).trans ((blk_nx e2).trans ((blk_nx e3).trans ((blk_if e4).trans ((blk_nx ((for_ev hr5).trans q5)).trans ((blk_nx (r1 := envC ws dr s6 s7 s8 s9 s10 s11 (.va (.int 1)) .no) rfl).trans ((blk_nx ((for_ev (xs := ws.map (tu .int)) rfl).trans q6)).trans ?_)))))))
  by_cases hz : z > 100 ∨ ws = []
  · refine blk_ifr ?_ rfl
    rw [ev_or]
    rcases hz with hz | hz
    · simp [hz]
    · by_cases hz2 : z > 100
      · simp [hz2]
      · simp [hz2, hz]
  · have hz1 : ¬ z > 100 := fun y => hz (.inl y)
    have hz2 : ws ≠ [] := fun y => hz (.inr y)
    have hz3 : ¬ (ws.length : Int) = 0 := by
      have := List.length_pos_iff.mpr hz2
      omega
    refine (blk_if ?_).trans (ret_ev ?_)
    · rw [ev_or]
      simp [hz1, hz3]
      exact hz2
    · have d1 := told_quarrel_eq (pa_parcels h) (inside_parcels ws) (by rw [wishes_len]; omega)
      cases hp : paths none ws with
      | nil =>
        rw [quarrel_first h hz2 hp] at d1
        refine call2 (x := eI [0]) (y := eI [0]) (call2 (x := eP (parcels ws)) (y := eNs (wishes ws)) rfl rfl d1) ?_ (is_row [0] (by decide))
        rw [ev_if]
        simp [envC, hp]
        rfl
      | cons x xs =>
        rw [quarrel_none h (row := x) (by rw [hp]; exact List.mem_cons_self)] at d1
        refine call2 (x := .none) (y := .none) (call2 (x := eP (parcels ws)) (y := eNs (wishes ws)) rfl rfl d1) ?_ is_none
        rw [ev_if]
        have hpos : ((xs.length : Int) + 1) > 0 := by omega
        simp [envC, hp]
end Dm.M
end

section
set_option Elab.async false
set_option linter.all false
set_option maxRecDepth 100000
set_option maxHeartbeats 1000000
set_option autoImplicit true
/-! K93A: _law_asked answers True. -/
namespace Dm.M
open PySem PySem.W
theorem asked_eq (ws : List (List Int)) (h : Wf ws) (h8 : (cells ws).length ≤ 8) (dr : List Int) (hd : 7 ≤ dr.length) : F__law_asked [eW ws, li .int dr] = some (.bool true) := by
  have h5 := h.l5
  have hrows : (paths none ws).length ≤ 243 := by
    rw [← duties_paths]
    refine Nat.le_trans (duties_len h.s3 [[]]) ?_
    have : 3 ^ ws.length ≤ 3 ^ 5 := Nat.pow_le_pow_right (by decide) h5
    simp
    omega
  have hdt : F__law_duties [eW ws] = some (eR (paths none ws)) := by rw [law_duties_eq ws h, duties_paths]
  have hnum := number_eq ws h.toWk
  have htold : F_told_duty [eW ws] = some (optI (paths none ws).head?) := by rw [told_duty_eq ws h.toWk, greedy_paths]
  have hcel := celled_eq ws h.toWk h8 (by omega)
  have hvis : F__law_vised [eW ws, eR (paths none ws)] = some (.bool true) := by
    cases hp : paths none ws with
    | nil =>
      have := vised_none ws h hp
      rw [hp] at this
      exact this
    | cons x xs =>
      have := vised_rows ws h.toWk x xs hp
      rw [hp] at this
      exact this
  refine run_def (r0 := [.va (eW ws), .va (li .int dr), .no, .no]) (z := .rt (.bool true)) rfl rfl ((blk_nx (r1 := [.va (eW ws), .va (li .int dr), .va (eR (paths none ws)), .no]) ?_).trans ((blk_if ?_).trans ((blk_if ?_).trans ?_)))
  · rw [ev_sAsg, call1 (x := eW ws) rfl hdt]
    rfl
  · have c1 := call2 (F := F__law_is) (a := callE F_number_of_duties [(vE 0)]) (b := unE lenD (vE 2)) (r := [.va (eW ws), .va (li .int dr), .va (eR (paths none ws)), .no]) (call1 (x := eW ws) rfl hnum) (by simp) (is_int _)
    have hif : ifE (trT (opE gtD (unE lenD (vE 2)) (kE (.int 0)))) (opE ixD (vE 2) (kE (.int 0))) (kE .none) [.va (eW ws), .va (li .int dr), .va (eR (paths none ws)), .no] = some (optI (paths none ws).head?) := by
      rw [ev_if]
      cases hp : paths none ws with
      | nil => simp [optI]
      | cons x xs => simp [optI]
    have c2 := call2 (F := F__law_is) (a := callE F_told_duty [(vE 0)]) (r := [.va (eW ws), .va (li .int dr), .va (eR (paths none ws)), .no]) (call1 (x := eW ws) rfl htold) hif (is_opt _ (fun r hr => by
      have := row_len (List.mem_of_mem_head? hr)
      omega))
    rw [ev_or, ev_not, ev_tr, c1, ev_not, ev_tr, c2]
    rfl
  · have c1 := call2 (F := F__law_celled) (a := vE 0) (b := vE 2) (r := [.va (eW ws), .va (li .int dr), .va (eR (paths none ws)), .no]) rfl rfl hcel
    have c2 := call2 (F := F__law_vised) (a := vE 0) (b := vE 2) (r := [.va (eW ws), .va (li .int dr), .va (eR (paths none ws)), .no]) rfl rfl hvis
    rw [ev_or, ev_not, ev_tr, c1, ev_not, ev_tr, c2]
    rfl
  · have hc := comp_ev (e := tu PyData.int) (f := PyData.int) (own := [3]) (it := seqI (vE 0)) (tg := .nm 3) (ts := trT (opE eqD (vE 3) (tupE []))) (el := kE (.int 1)) (r := [.va (eW ws), .va (li .int dr), .va (eR (paths none ws)), .no]) (xs := ws) (fun a => decide (a = [])) (fun _ => 1) rfl (by omega) (fun a ha => by
      refine ⟨_, rfl, ?_, fun _ => rfl⟩
      have : eqD (eI a) (.tuple []) = some (.bool (decide (a = []))) := eqD_ti [] a
      simp [this])
    have hl := lst_ev hc
    by_cases he : ∀ a ∈ ws, a ≠ []
    · refine (blk_if ?_).trans (ret_ev ?_)
      · rw [ev_tr, ev_op, ev_un, hl]
        have : ws.filter (fun a => decide (a = [])) = [] := List.filter_eq_nil_iff.mpr fun a ha => by simpa using he a ha
        rw [this]
        rfl
      · exact call3 (x := eW ws) (y := eR (paths none ws)) (w := li .int dr) rfl rfl rfl (chosen_eq ws h he dr hd)
    · obtain ⟨a, ha⟩ := Classical.not_forall.mp he
      obtain ⟨ha1, ha2⟩ := Classical.not_imp.mp ha
      have ha3 : a = [] := Classical.not_not.mp ha2
      subst ha3
      have hne : 0 < ws.length := List.length_pos_of_mem ha1
      have hrow : isDuty ws (List.replicate ws.length 0) = false := by
        rw [adj_paths ws _ (by simp)]
        apply decide_eq_false
        intro hm
        have hi := ((mem_paths _ _ _).mp hm).1
        obtain ⟨i, hi1⟩ := List.getElem?_of_mem ha1
        have hlt := (List.getElem?_eq_some_iff.mp hi1).1
        have h2 := hi.drop i
        rw [List.drop_eq_getElem_cons hlt, (List.getElem?_eq_some_iff.mp hi1).2] at h2
        generalize (List.replicate ws.length (0 : Int)).drop i = y at h2
        cases h2 with
        | cons q _ => cases q
      have hd := is_duty_eq ws (List.replicate ws.length 0) (by simp; omega)
      rw [hrow] at hd
      have hrep : opE repT (tupE [(kE (.int 0))]) (unE lenD (vE 0)) [.va (eW ws), .va (li .int dr), .va (eR (paths none ws)), .no] = some (eI (List.replicate ws.length 0)) := by
        have e : repT (.tuple [.int 0]) (.int (ws.length : Int)) = some (eI (List.replicate ws.length 0)) := by
          have h1 : (1 : Int) ≤ (ws.length : Int) ∧ (ws.length : Int) ≤ 1000 := by omega
          show (if (decide ([PyData.int 0].length ≤ 1000 ∧ 1 ≤ (ws.length : Int) ∧ (ws.length : Int) ≤ 1000) && true) = true then some (PyData.tuple (List.replicate ((ws.length : Int)).toNat [PyData.int 0]).flatten) else none) = _
          rw [if_pos (by simp; omega)]
          have e3 : (List.replicate ws.length [PyData.int 0]).flatten = (List.replicate ws.length (0 : Int)).map .int := by
            generalize ws.length = n
            induction n with
            | zero => rfl
            | succ n ih => rw [List.replicate_succ, List.flatten_cons, ih, List.replicate_succ]; rfl
          rw [Int.toNat_natCast, e3]
          rfl
        exact op_ev rfl (by simp) e
      refine blk_ifr ?_ (call2 (x := .bool false) (y := .bool false) (call2 (x := eW ws) (y := eI (List.replicate ws.length 0)) rfl hrep hd) rfl (is_bool false))
      rw [ev_tr, ev_op, ev_un, hl]
      have : 0 < (ws.filter (fun a => decide (a = []))).length := List.length_pos_of_mem (List.mem_filter.mpr ⟨ha1, by simp⟩)
      simp
      exact ha1
end Dm.M
end

section
set_option Elab.async false
set_option linter.all false
set_option maxRecDepth 100000
set_option maxHeartbeats 1000000
set_option autoImplicit true
/-! K93L: the law answers True. -/
namespace Dm.M
open PySem PySem.W
theorem dedupI_len : ∀ xs : List Int, (dedupI xs).length ≤ xs.length
  | [] => Nat.le_refl _
  | x :: xs => by
    unfold dedupI
    split
    · exact Nat.le_succ_of_le (dedupI_len xs)
    · exact Nat.succ_le_succ (dedupI_len xs)
theorem sortSet_some (ns : List Int) (h : ns.length ≤ 60) : ∃ ys, sortSetD (li .int ns) = some (li .int ys) ∧ ys.Pairwise (· < ·) ∧ ys.length ≤ ns.length := by
  have hl : ((dedupI ns).mergeSort fun a b => decide (a ≤ b)).length ≤ ns.length := by
    rw [List.length_mergeSort]
    exact dedupI_len ns
  exact ⟨_, sortSet_eq (ns := ns) (by omega) (asc_sort (nodup_dedupI ns)) (by omega) (fun a => by rw [mem_sort, mem_dedupI]), asc_sort (nodup_dedupI ns), hl⟩
theorem cells_sum : ∀ (ws : List (List Int)) (t : Nat), (ws.map fun a => (a.length : Int)).sum = ((cellsFrom t ws).length : Int)
  | [], t => rfl
  | a :: r, t => by
    rw [List.map_cons, List.sum_cons, cells_sum r (t + 1), cellsFrom, List.length_append, List.length_map]
    omega
structure Gd (ws : List (List Int)) : Prop where
  a : ∀ a ∈ ws, a.Pairwise (· < ·)
  b : ∀ a ∈ ws, a.length ≤ 3
  c : (cells ws).length ≤ 8
theorem Gd.wf {ws : List (List Int)} (h : Gd ws) (h5 : ws.length ≤ 5) : Wf ws := ⟨⟨h.a, fun a ha => by have := h.b a ha; omega, by omega⟩, h.b, h5⟩
def B_at : S := blk [(sAsg (.nm 6) (unE intD (opE ixD (vE 3) (vE 5)))), (sAsg (.nm 7) (opE ixD (tupE [(kE (.int 2)), (kE (.int 1)), (kE (.int 2)), (kE (.int 3)), (kE (.int 1)), (kE (.int 2)), (kE (.int 0))]) (opE modD (vE 6) (kE (.int 7))))), (sAsg (.nm 8) (lstI (compI [10] (rgI (kE (.int 0)) (vE 7)) (.nm 10) noT (opE modD (unE intD (opE addD (opE fdivD (vE 6) (kE (.int 7))) (opE mulI (vE 10) (opE addD (kE (.int 1)) (opE modD (opE fdivD (vE 6) (kE (.int 70))) (kE (.int 2))))))) (kE (.int 4)))))), (sAsg (.nm 9) (opE subD (kE (.int 8)) (unE sumD (lstI (compI [11] (seqI (vE 4)) (.nm 11) noT (unE lenD (vE 11))))))), (sAsg (.nm 4) (opE addD (vE 4) (tupE [(cutE (tupI (seqI (unE sortSetD (vE 8)))) none (some (vE 9)))])))]
theorem at_ok (pt : List Int) (t : Nat) (ht : t < 5) (hp : pt.length = 10) (ws : List (List Int)) (h : Gd ws) (hl : ws.length = t) (s0 s1 s2 s6 s7 s8 s9 : Slot) :
    ∃ a s6' s7' s8' s9', Gd (ws ++ [a]) ∧ B_at [s0, s1, s2, .va (li .int pt), .va (eW ws), .va (.int t), s6, s7, s8, s9, .no, .no] = some (.nx [s0, s1, s2, .va (li .int pt), .va (eW (ws ++ [a])), .va (.int t), s6', s7', s8', s9', .no, .no]) := by
  obtain ⟨d, hd⟩ : ∃ d, pt[t]? = some d := ⟨_, List.getElem?_eq_getElem (by omega)⟩
  have e1 : sAsg (.nm 6) (unE intD (opE ixD (vE 3) (vE 5))) [s0, s1, s2, .va (li .int pt), .va (eW ws), .va (.int t), s6, s7, s8, s9, .no, .no] = some (.nx [s0, s1, s2, .va (li .int pt), .va (eW ws), .va (.int t), .va (.int d), s7, s8, s9, .no, .no]) := by
    simp [hd]
  obtain ⟨z, hz, hz3⟩ : ∃ z : Nat, atL [(2 : Int), 1, 2, 3, 1, 2, 0] (d.fmod 7) = some (z : Int) ∧ z ≤ 3 := by
    obtain ⟨g1, g2⟩ := fmod_inI d (n := 7) (by decide)
    obtain ⟨x, hx, hm⟩ := atL_some (xs := [(2 : Int), 1, 2, 3, 1, 2, 0]) g1 g2
    have : 0 ≤ x ∧ x ≤ 3 := by
      simp at hm
      omega
    refine ⟨x.toNat, ?_, by omega⟩
    rw [hx]
    congr 1
    omega
  have e2 : sAsg (.nm 7) (opE ixD (tupE [(kE (.int 2)), (kE (.int 1)), (kE (.int 2)), (kE (.int 3)), (kE (.int 1)), (kE (.int 2)), (kE (.int 0))]) (opE modD (vE 6) (kE (.int 7)))) [s0, s1, s2, .va (li .int pt), .va (eW ws), .va (.int t), .va (.int d), s7, s8, s9, .no, .no] = some (.nx [s0, s1, s2, .va (li .int pt), .va (eW ws), .va (.int t), .va (.int d), .va (.int z), s8, s9, .no, .no]) := by
    have hix : ixD (.tuple [.int 2, .int 1, .int 2, .int 3, .int 1, .int 2, .int 0]) (.int (d.fmod 7)) = some (.int z) := by
      have : ixD (tu .int [(2 : Int), 1, 2, 3, 1, 2, 0]) (.int (d.fmod 7)) = some (.int z) := by rw [ixD_tu, hz]; rfl
      exact this
    rw [ev_sAsg, op_ev (x := .tuple [.int 2, .int 1, .int 2, .int 3, .int 1, .int 2, .int 0]) (y := .int (d.fmod 7)) rfl (op_ev rfl rfl (modD_ok d 7 (by decide))) hix]
    rfl
  obtain ⟨q, hq⟩ : ∃ q, fdivD (.int d) (.int 7) = some (.int q) := ⟨_, fdivD_ok d 7 (by decide)⟩
  obtain ⟨u, hu⟩ : ∃ u, fdivD (.int d) (.int 70) = some (.int u) := ⟨_, fdivD_ok d 70 (by decide)⟩
  obtain ⟨v, hv, hv2⟩ : ∃ v, modD (.int u) (.int 2) = some (.int v) ∧ 0 ≤ v ∧ v < 2 := ⟨_, modD_ok u 2 (by decide), fmod_inI u (by decide)⟩
  have hr : rgI (kE (.int 0)) (vE 7) [s0, s1, s2, .va (li .int pt), .va (eW ws), .va (.int t), .va (.int d), .va (.int z), s8, s9, .no, .no] = some ((List.range z).map fun i : Nat => .int (i : Int)) := by
    rw [rg_ev (x := 0) (y := (z : Int)) rfl rfl (by omega) (by omega), rangeL_nat]
  have hc := comp_ev_all (e := fun i : Nat => PyData.int (i : Int)) (f := PyData.int) (own := [10]) (tg := .nm 10) (ts := noT) (el := opE modD (unE intD (opE addD (opE fdivD (vE 6) (kE (.int 7))) (opE mulI (vE 10) (opE addD (kE (.int 1)) (opE modD (opE fdivD (vE 6) (kE (.int 70))) (kE (.int 2))))))) (kE (.int 4))) (fun i : Nat => (q + (i : Int) * (1 + v)).fmod 4) hr (by simp; omega) (fun i hi => by
    refine ⟨_, rfl, rfl, ?_⟩
    exact op_mod (op_ev (op_ev rfl rfl hq) (op_ev rfl (op_ev rfl (op_ev (op_ev rfl rfl hu) rfl hv) (addD_int _ _)) (mulI_ok _ _ (by omega))) (addD_int _ _)) (by decide))
  have hcl := lst_ev hc
  generalize hab : (List.range z).map (fun i : Nat => (q + (i : Int) * (1 + v)).fmod 4) = able at *
  have hlen : able.length = z := by rw [← hab]; simp
  obtain ⟨ys, hy1, hy2, hy3⟩ := sortSet_some able (by omega)
  have e3 : sAsg (.nm 8) (lstI (compI [10] (rgI (kE (.int 0)) (vE 7)) (.nm 10) noT (opE modD (unE intD (opE addD (opE fdivD (vE 6) (kE (.int 7))) (opE mulI (vE 10) (opE addD (kE (.int 1)) (opE modD (opE fdivD (vE 6) (kE (.int 70))) (kE (.int 2))))))) (kE (.int 4))))) [s0, s1, s2, .va (li .int pt), .va (eW ws), .va (.int t), .va (.int d), .va (.int z), s8, s9, .no, .no] = some (.nx [s0, s1, s2, .va (li .int pt), .va (eW ws), .va (.int t), .va (.int d), .va (.int z), .va (li .int able), s9, .no, .no]) := by
    rw [ev_sAsg, hcl]
    rfl
  have h8 := h.c
  obtain ⟨lf, hlf⟩ : ∃ lf : Nat, (cells ws).length + lf = 8 := ⟨8 - (cells ws).length, by omega⟩
  have e4 : sAsg (.nm 9) (opE subD (kE (.int 8)) (unE sumD (lstI (compI [11] (seqI (vE 4)) (.nm 11) noT (unE lenD (vE 11)))))) [s0, s1, s2, .va (li .int pt), .va (eW ws), .va (.int t), .va (.int d), .va (.int z), .va (li .int able), s9, .no, .no] = some (.nx [s0, s1, s2, .va (li .int pt), .va (eW ws), .va (.int t), .va (.int d), .va (.int z), .va (li .int able), .va (.int lf), .no, .no]) := by
    have hc2 := comp_ev_all (e := tu PyData.int) (f := PyData.int) (own := [11]) (it := seqI (vE 4)) (tg := .nm 11) (ts := noT) (el := unE lenD (vE 11)) (r := [s0, s1, s2, .va (li .int pt), .va (eW ws), .va (.int t), .va (.int d), .va (.int z), .va (li .int able), s9, .no, .no]) (xs := ws) (fun a => (a.length : Int)) rfl (by omega) (fun a ha => ⟨_, rfl, rfl, by simp⟩)
    have hs : unE sumD (lstI (compI [11] (seqI (vE 4)) (.nm 11) noT (unE lenD (vE 11)))) [s0, s1, s2, .va (li .int pt), .va (eW ws), .va (.int t), .va (.int d), .va (.int z), .va (li .int able), s9, .no, .no] = some (.int ((cells ws).length : Int)) := by
      rw [ev_un, lst_ev hc2, Option.bind_some, sumD_ints, cells_sum ws 0]
    have hsub : subD (.int 8) (.int ((cells ws).length : Int)) = some (.int (lf : Int)) := by
      rw [subD_int]
      exact congrArg (fun x : Int => some (PyData.int x)) (by omega)
    rw [ev_sAsg, op_ev rfl hs hsub]
    rfl
  have e5 : sAsg (.nm 4) (opE addD (vE 4) (tupE [(cutE (tupI (seqI (unE sortSetD (vE 8)))) none (some (vE 9)))])) [s0, s1, s2, .va (li .int pt), .va (eW ws), .va (.int t), .va (.int d), .va (.int z), .va (li .int able), .va (.int lf), .no, .no] = some (.nx [s0, s1, s2, .va (li .int pt), .va (eW (ws ++ [ys.take lf])), .va (.int t), .va (.int d), .va (.int z), .va (li .int able), .va (.int lf), .no, .no]) := by
    have ht1 : tupI (seqI (unE sortSetD (vE 8))) [s0, s1, s2, .va (li .int pt), .va (eW ws), .va (.int t), .va (.int d), .va (.int z), .va (li .int able), .va (.int lf), .no, .no] = some (eI ys) := by
      have hu2 : unE sortSetD (vE 8) [s0, s1, s2, .va (li .int pt), .va (eW ws), .va (.int t), .va (.int d), .va (.int z), .va (li .int able), .va (.int lf), .no, .no] = some (li .int ys) := hy1
      rw [ev_tupI, ev_seq, hu2, Option.bind_some, seqD_li, Option.bind_some]
      rfl
    have hcut : cutE (tupI (seqI (unE sortSetD (vE 8)))) none (some (vE 9)) [s0, s1, s2, .va (li .int pt), .va (eW ws), .va (.int t), .va (.int d), .va (.int z), .va (li .int able), .va (.int lf), .no, .no] = some (eI (ys.take lf)) := by
      rw [ev_cut, ht1]
      simp [cutL_to]
    rw [ev_sAsg, op_ev (a := vE 4) (x := eW ws) (y := .tuple [eI (ys.take lf)]) rfl (by rw [ev_tup, ev_args1, hcut]; rfl) (add_one (e := tu PyData.int) ws (ys.take lf) (by omega))]
    rfl
  refine ⟨ys.take lf, _, _, _, _, ⟨?_, ?_, ?_⟩, (blk_nx e1).trans ((blk_nx e2).trans ((blk_nx e3).trans ((blk_nx e4).trans ((blk_nx e5).trans rfl))))⟩
  · intro b hb
    rcases List.mem_append.mp hb with q | q
    · exact h.a b q
    · rw [List.mem_singleton.mp q]
      exact hy2.sublist (List.take_sublist _ _)
  · intro b hb
    rcases List.mem_append.mp hb with q | q
    · exact h.b b q
    · rw [List.mem_singleton.mp q, List.length_take]
      omega
  · unfold cells
    rw [cells_snoc, List.length_append, List.length_map, List.length_take]
    unfold cells at hlf
    omega
def B_k : S := blk [(sAsg (.nm 3) (callE F__law_draws [(callE F__law_cell [(vE 0), (opE addD (kE (.int 1)) (vE 2))]), (kE (.int 10))])), (sAsg (.nm 4) (tupE [])), (sFor (rgI (kE (.int 0)) (opE ixD (tupE [(kE (.int 5)), (kE (.int 4)), (kE (.int 5)), (kE (.int 3)), (kE (.int 0)), (kE (.int 1))]) (opE modD (unE intD (opE ixD (vE 1) (opE addD (kE (.int 8)) (vE 2)))) (kE (.int 6))))) (.nm 5) B_at), (sIf (notT (trT (callE F__law_asked [(vE 4), (cutE (vE 1) (some (opE addD (kE (.int 2)) (vE 2))) none)]))) (blk [(sRet (kE (.bool false)))]) (blk []))]
theorem k_ok (ns : List Int) (dr : List Int) (hd : dr.length = 16) (k : Nat) (hk : k < 2) (s3 s4 s5 s6 s7 s8 s9 : Slot) :
    ∃ s3' s4' s5' s6' s7' s8' s9', B_k [.va (li .int ns), .va (li .int dr), .va (.int k), s3, s4, s5, s6, s7, s8, s9, .no, .no] = some (.nx [.va (li .int ns), .va (li .int dr), .va (.int k), s3', s4', s5', s6', s7', s8', s9', .no, .no]) := by
  obtain ⟨c, hc⟩ := cell_ok ns (1 + k)
  obtain ⟨pt, hp1, _, hp2⟩ := draws_ok c 10 (by decide)
  have e1 : sAsg (.nm 3) (callE F__law_draws [(callE F__law_cell [(vE 0), (opE addD (kE (.int 1)) (vE 2))]), (kE (.int 10))]) [.va (li .int ns), .va (li .int dr), .va (.int k), s3, s4, s5, s6, s7, s8, s9, .no, .no] = some (.nx [.va (li .int ns), .va (li .int dr), .va (.int k), .va (li .int pt), s4, s5, s6, s7, s8, s9, .no, .no]) := by
    have hk1 : opE addD (kE (.int 1)) (vE 2) [.va (li .int ns), .va (li .int dr), .va (.int k), s3, s4, s5, s6, s7, s8, s9, .no, .no] = some (.int ((1 + k : Nat) : Int)) := op_ev rfl rfl (by rw [addD_int]; congr 2)
    rw [ev_sAsg, call2 (F := F__law_draws) (call2 (F := F__law_cell) rfl hk1 hc) rfl hp2]
    rfl
  obtain ⟨d, hdk⟩ : ∃ d, dr[8 + k]? = some d := ⟨_, List.getElem?_eq_getElem (by omega)⟩
  obtain ⟨z, hz, hz3⟩ : ∃ z : Nat, atL [(5 : Int), 4, 5, 3, 0, 1] (d.fmod 6) = some (z : Int) ∧ z ≤ 5 := by
    obtain ⟨g1, g2⟩ := fmod_inI d (n := 6) (by decide)
    obtain ⟨x, hx, hm⟩ := atL_some (xs := [(5 : Int), 4, 5, 3, 0, 1]) g1 g2
    have : 0 ≤ x ∧ x ≤ 5 := by
      simp at hm
      omega
    refine ⟨x.toNat, ?_, by omega⟩
    rw [hx]
    congr 1
    omega
  have hr : rgI (kE (.int 0)) (opE ixD (tupE [(kE (.int 5)), (kE (.int 4)), (kE (.int 5)), (kE (.int 3)), (kE (.int 0)), (kE (.int 1))]) (opE modD (unE intD (opE ixD (vE 1) (opE addD (kE (.int 8)) (vE 2)))) (kE (.int 6)))) [.va (li .int ns), .va (li .int dr), .va (.int k), .va (li .int pt), .va (eW []), s5, s6, s7, s8, s9, .no, .no] = some ((List.range z).map fun i : Nat => .int (i : Int)) := by
    have hix : ixD (.tuple [.int 5, .int 4, .int 5, .int 3, .int 0, .int 1]) (.int (d.fmod 6)) = some (.int z) := by
      have : ixD (tu .int [(5 : Int), 4, 5, 3, 0, 1]) (.int (d.fmod 6)) = some (.int z) := by rw [ixD_tu, hz]; rfl
      exact this
    have ha : opE ixD (vE 1) (opE addD (kE (.int 8)) (vE 2)) [.va (li .int ns), .va (li .int dr), .va (.int k), .va (li .int pt), .va (eW []), s5, s6, s7, s8, s9, .no, .no] = some (.int d) := by
      refine op_ev rfl (op_ev rfl rfl (addD_int _ _)) ?_
      have e8 : (8 : Int) + (k : Int) = ((8 + k : Nat) : Int) := by omega
      rw [e8, ixD_li, atL_nat, hdk]
      rfl
    rw [rg_ev (x := 0) (y := (z : Int)) rfl (op_ev (x := .tuple [.int 5, .int 4, .int 5, .int 3, .int 0, .int 1]) rfl (op_mod ha (by decide)) hix) (by omega) (by omega), rangeL_nat]
  obtain ⟨r', q, ws, t5, t6, t7, t8, t9, hw, hwl, rfl⟩ := forL_range (tg := .nm 5) (b := B_at) (fun t r => ∃ ws t5 t6 t7 t8 t9, Gd ws ∧ ws.length = t ∧ r = [.va (li .int ns), .va (li .int dr), .va (.int k), .va (li .int pt), .va (eW ws), t5, t6, t7, t8, t9, .no, .no]) z [.va (li .int ns), .va (li .int dr), .va (.int k), .va (li .int pt), .va (eW []), s5, s6, s7, s8, s9, .no, .no] ⟨[], s5, s6, s7, s8, s9, ⟨by simp, by simp, by simp [cells, cellsFrom]⟩, rfl, rfl⟩ (by
    rintro t r ht ⟨ws, t5, t6, t7, t8, t9, hw, hwl, rfl⟩
    obtain ⟨a, u6, u7, u8, u9, g, e⟩ := at_ok pt t (by omega) hp1 ws hw hwl (.va (li .int ns)) (.va (li .int dr)) (.va (.int k)) t6 t7 t8 t9
    exact ⟨_, _, rfl, .inl e, ws ++ [a], _, u6, u7, u8, u9, g, by simp [hwl], rfl⟩)
  have hask := asked_eq ws (hw.wf (by omega)) hw.c (dr.drop (2 + k)) (by rw [List.length_drop]; omega)
  have hcut : cutE (vE 1) (some (opE addD (kE (.int 2)) (vE 2))) none [.va (li .int ns), .va (li .int dr), .va (.int k), .va (li .int pt), .va (eW ws), t5, t6, t7, t8, t9, .no, .no] = some (li .int (dr.drop (2 + k))) := by
    have e2 : (2 : Int) + (k : Int) = ((2 + k : Nat) : Int) := by omega
    rw [ev_cut]
    simp only [ev_part1, ev_part0, ev_op, ev_v, ev_k, List.getElem?_cons_succ, List.getElem?_cons_zero, Option.bind_some, addD_int, e2, cutD_li, cutL_from]
  refine ⟨_, _, _, _, _, _, _, (blk_nx e1).trans ((blk_nx (r1 := [.va (li .int ns), .va (li .int dr), .va (.int k), .va (li .int pt), .va (eW []), s5, s6, s7, s8, s9, .no, .no]) rfl).trans ((blk_nx ((for_ev hr).trans q)).trans ((blk_if ?_).trans rfl)))⟩
  rw [ev_not, ev_tr, call2 (x := eW ws) (y := li .int (dr.drop (2 + k))) rfl hcut hask]
  rfl
theorem law_true (ns : List Int) : F_law [.list (ns.map .int)] = some (.bool true) := by
  obtain ⟨c, hc⟩ := cell_ok ns 0
  obtain ⟨dr, hd1, _, hd2⟩ := draws_ok c 16 (by decide)
  have g1 : Gd [[1], [1, 2], [0, 2], [0]] := ⟨by decide, by decide, by decide⟩
  have g2 : Gd [[0, 1], [1, 2], [0, 1]] := ⟨by decide, by decide, by decide⟩
  have g3 : Gd [[0], [], [1]] := ⟨by decide, by decide, by decide⟩
  have a1 := asked_eq _ (g1.wf (by decide)) g1.c dr (by omega)
  have a2 := asked_eq _ (g2.wf (by decide)) g2.c dr (by omega)
  have a3 := asked_eq _ (g3.wf (by decide)) g3.c dr (by omega)
  obtain ⟨r', q, s3, s4, s5, s6, s7, s8, s9, s2, rfl⟩ := forL_range (tg := .nm 2) (b := B_k) (fun k r => ∃ s3 s4 s5 s6 s7 s8 s9 s2, r = [.va (li .int ns), .va (li .int dr), s2, s3, s4, s5, s6, s7, s8, s9, .no, .no]) 2 [.va (li .int ns), .va (li .int dr), .no, .no, .no, .no, .no, .no, .no, .no, .no, .no] ⟨_, _, _, _, _, _, _, _, rfl⟩ (by
    rintro k r hk ⟨s3, s4, s5, s6, s7, s8, s9, s2, rfl⟩
    obtain ⟨t3, t4, t5, t6, t7, t8, t9, e⟩ := k_ok ns dr hd1 k hk s3 s4 s5 s6 s7 s8 s9
    exact ⟨_, _, rfl, .inl e, _, _, _, _, _, _, _, _, rfl⟩)
  have hr : rgI (kE (.int 0)) (kE (.int 2)) [.va (li .int ns), .va (li .int dr), .no, .no, .no, .no, .no, .no, .no, .no, .no, .no] = some ((List.range 2).map fun i : Nat => .int (i : Int)) := by
    rw [rg_ev (x := 0) (y := 2) rfl rfl (by omega) (by omega)]
    exact congrArg some (rangeL_nat 2)
  refine run_def (r0 := [.va (li .int ns), .no, .no, .no, .no, .no, .no, .no, .no, .no, .no, .no]) (z := .rt (.bool true)) rfl rfl ((blk_nx (r1 := [.va (li .int ns), .va (li .int dr), .no, .no, .no, .no, .no, .no, .no, .no, .no, .no]) ?_).trans ((blk_if ?_).trans ((blk_if ?_).trans ((blk_nx ((for_ev hr).trans q)).trans (ret_ev rfl)))))
  · rw [ev_sAsg, call2 (F := F__law_draws) (call2 (F := F__law_cell) (x := li .int ns) (y := .int 0) rfl rfl hc) rfl hd2]
    rfl
  · rw [ev_or, ev_not, ev_tr, call2 (F := F__law_asked) (x := eW [[1], [1, 2], [0, 2], [0]]) (y := li .int dr) rfl rfl a1, ev_not, ev_tr, call2 (F := F__law_asked) (x := eW [[0, 1], [1, 2], [0, 1]]) (y := li .int dr) rfl rfl a2]
    rfl
  · rw [ev_not, ev_tr, call2 (F := F__law_asked) (x := eW [[0], [], [1]]) (y := li .int dr) rfl rfl a3]
    rfl
end Dm.M
end

theorem PySem.Challenge.cw_runwarden_k93_whole_weeks_as_parcels_holds : PySem.Challenge.rw_runwarden_k93_whole_weeks_as_parcels.Holds :=
  Rwd.holds_of fun ns _ => Dm.M.law_true ns
