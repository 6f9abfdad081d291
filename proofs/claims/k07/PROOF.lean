import PyProof.Rows.All
import PySem.Challenge.RW_wishshapes_k07_refusals_of_nets
import PySem.PyData
import HandS.ForMost
import HandS.ForExc
import HandS.ExcInit
import HandS.Defaults
import HandS.TupAny
import HandS.Deep
import HandS.Conv
import HandS.CallSlots
import HandS.TryMany
import HandS.Wide
import HandS.TupMul
import HandS.TupLe
import KE.SortData
import KE.DataMinMax
import KE.DataAny
import HandS.IsInst
import KE.KDictSum
import KE.KDictWalk
import HandS.Flow
import HandS.Style
import HandS.TryOnly
import HandS.Small
import HandS.Iter
import HandS.Zip
import KE.GoesMore
import KE.GoesEnum
import HandS.ExcField
import HandS.ExcIs
import HandS.Head0
import HandS.Head1
import HandS.Head2
import HandS.HeadEnd
import HandS.EndBits
import HandS.HeadHook1
import HandS.HeadHook2
import PyProof.TableCode

section
set_option linter.all false
/-! RfA: immediate data, the small heap, the IR and its evaluator (no Python model in sight). -/
namespace Rw

/-- a value: lists and dicts are immediate until they are registered (ref n: the n-th registered object) -/
inductive D where
  | non | bl (b : Bool) | int (i : Int) | str (s : List Nat)
  | tup (xs : List D) | lst (xs : List D)
  | dT (kvs : List (List Int × D)) | dI (kvs : List (Int × D))
  | ref (n : Nat) | scr (ns : List Int) | ktp (xs : List D)
  | exc (c : Nat) (fs : List D)
  deriving Inhabited

/-- a registered object -/
inductive Ob where
  | lst (xs : List D) | dT (kvs : List (List Int × D)) | dI (kvs : List (Int × D))
  | ins (c : Nat) (fs : List (Nat × D))
  | dead
  deriving Inhabited

/-- the heap: the objects; fl: above every ref that stands in an object -/
structure AH where
  os : List Ob
  fl : Nat
  deriving Inhabited

/-- an exception: its class, its fields -/
structure Xc where
  c : Nat
  fs : List D

inductive R (α : Type) where
  | ok (a : α) (h : AH)
  | exc (x : Xc) (h : AH)
  | bad

def R.bind {α β : Type} (r : R α) (f : α → AH → R β) : R β := match r with
  | .ok a h => f a h
  | .exc x h => .exc x h
  | .bad => .bad

/-! ### refs in a value -/
mutual
/-- one more than the greatest ref (0: none) -/
def D.top : D → Nat
  | .non | .bl _ | .int _ | .str _ | .scr _ => 0
  | .ref n => n + 1
  | .tup xs | .lst xs | .ktp xs | .exc _ xs => topL xs
  | .dT kvs => topT kvs
  | .dI kvs => topI kvs
def topL : List D → Nat
  | [] => 0
  | x :: xs => max x.top (topL xs)
def topT : List (List Int × D) → Nat
  | [] => 0
  | (_, x) :: xs => max x.top (topT xs)
def topI : List (Int × D) → Nat
  | [] => 0
  | (_, x) :: xs => max x.top (topI xs)
end
/-- the refs from n on made immediate, k deep -/
def frz (os : List Ob) (n : Nat) : Nat → D → D
  | 0, d => d
  | k + 1, d => match d with
    | .ref m => if n ≤ m then (match os[m]? with
        | some (.lst xs) => .lst (xs.map (frz os n k))
        | some (.dT kvs) => .dT (kvs.map fun p => (p.1, frz os n k p.2))
        | some (.dI kvs) => .dI (kvs.map fun p => (p.1, frz os n k p.2))
        | _ => .ref m) else .ref m
    | .tup xs => .tup (xs.map (frz os n k))
    | .lst xs => .lst (xs.map (frz os n k))
    | d => d

def noX : D → Bool
  | .exc _ _ => false
  | _ => true
/-! ### data -/
/-- none, bools, ints, texts, tuples and lists of these, k deep -/
def plK : Nat → D → Bool
  | _, .non | _, .bl _ | _, .int _ | _, .str _ => true
  | k + 1, .tup xs | k + 1, .lst xs => xs.all (plK k)
  | _, _ => false
/-- .. without texts -/
def noS : Nat → D → Bool
  | _, .non | _, .bl _ | _, .int _ => true
  | k + 1, .tup xs | k + 1, .lst xs => xs.all (noS k)
  | _, _ => false
def D.plain (d : D) : Bool := plK 12 d
def plainL (xs : List D) : Bool := xs.all (plK 11)
mutual
/-- == of plain data -/
def deq : D → D → Bool
  | .non, .non => true
  | .bl a, .bl b => a == b
  | .bl a, .int j => (if a then 1 else 0) == j
  | .int i, .bl b => i == (if b then 1 else 0)
  | .int i, .int j => i == j
  | .str x, .str y => x == y
  | .tup xs, .tup ys => deqL xs ys
  | .lst xs, .lst ys => deqL xs ys
  | _, _ => false
def deqL : List D → List D → Bool
  | [], [] => true
  | x :: xs, y :: ys => deq x y && deqL xs ys
  | _, _ => false
end
mutual
/-- comparable, place by place -/
def dalike : D → D → Bool
  | .bl _, .bl _ => true
  | .int _, .int _ => true
  | .str _, .str _ => true
  | .tup xs, .tup ys => dalikeL xs ys
  | .lst xs, .lst ys => dalikeL xs ys
  | _, _ => false
def dalikeL : List D → List D → Bool
  | x :: xs, y :: ys => dalike x y && dalikeL xs ys
  | _, _ => true
end
def codesLt : List Nat → List Nat → Bool
  | [], [] => false
  | [], _ :: _ => true
  | _ :: _, [] => false
  | x :: xs, y :: ys => if x == y then codesLt xs ys else decide (x < y)
mutual
/-- x < y, of alike data -/
def dlt : D → D → Bool
  | .bl a, .bl b => !a && b
  | .int i, .int j => decide (i < j)
  | .str x, .str y => codesLt x y
  | .tup xs, .tup ys => dltL xs ys
  | .lst xs, .lst ys => dltL xs ys
  | _, _ => false
def dltL : List D → List D → Bool
  | [], [] => false
  | [], _ :: _ => true
  | _ :: _, [] => false
  | x :: xs, y :: ys => if deq x y then dltL xs ys else dlt x y
end
/-- what the items of a sort are -/
inductive Ty where
  | int | str | seq (t : Ty) | two (s t : Ty) | three (s t u : Ty)
def Ty.has : Ty → D → Bool
  | .int, .int _ => true
  | .str, .str _ => true
  | .seq t, .tup xs => xs.all t.has
  | .two s t, .tup [x, y] => s.has x && t.has y
  | .three s t u, .tup [x, y, z] => s.has x && t.has y && u.has z
  | _, _ => false
/-- the types that a sort is tried with -/
def tys : List Ty := [.int, .seq .int, .seq (.seq .int), .two .int (.seq .int), .two .int (.seq (.seq .int)), .seq (.seq (.seq .int)), .str]
def sortable (xs : List D) : Bool := tys.any fun t => xs.all t.has
/-- sorted, stable -/
def dins (x : D) : List D → List D
  | [] => [x]
  | y :: ys => if dlt y x then y :: dins x ys else x :: y :: ys
def dsort (xs : List D) : List D := xs.foldr dins []

/-- what a container's items are, for reading -/
def items (h : AH) : D → Option (List D)
  | .tup xs | .lst xs | .ktp xs => some xs
  | .scr ns => some (ns.map .int)
  | .ref n => match h.os[n]? with
    | some (.lst xs) => some xs
    | _ => none
  | _ => none
/-- a list's items -/
def litems (h : AH) : D → Option (List D)
  | .lst xs => some xs
  | .scr ns => some (ns.map .int)
  | .ref n => match h.os[n]? with
    | some (.lst xs) => some xs
    | _ => none
  | _ => none
/-- a list's or a tuple's -/
def stems (h : AH) : D → Option (List D)
  | .tup xs => some xs
  | d => litems h d
/-- a dict's keys, tuples -/
def walkedD (h : AH) : D → Option (List D)
  | .dT kvs => some (kvs.map fun p => .tup (p.1.map .int))
  | .ref n => match h.os[n]? with
    | some (.dT kvs) => some (kvs.map fun p => .tup (p.1.map .int))
    | _ => none
  | _ => none
/-- a registered list as an immediate one -/
def res (h : AH) : D → D
  | .ref n => match h.os[n]? with
    | some (.lst xs) => .lst xs
    | _ => .ref n
  | d => d
/-- truth -/
def tru (h : AH) : D → Option Bool
  | .non => some false
  | .bl b => some b
  | .int i => some (i != 0)
  | .str s => if s.length ≤ 1000000 then some !s.isEmpty else none
  | .tup xs | .lst xs => some !xs.isEmpty
  | .dI kvs => some !kvs.isEmpty
  | .scr ns => some !ns.isEmpty
  | .ref n => match h.os[n]? with
    | some (.lst xs) => some !xs.isEmpty
    | some (.dI kvs) => some !kvs.isEmpty
    | _ => none
  | _ => none
/-- the place that an index of any sign means -/
def ixOf (n : Nat) (i : Int) : Option Nat := if 0 ≤ i then (if i < n then some i.toNat else none) else if -(n : Int) ≤ i then some (i + n).toNat else none
/-- a slice's bound as a place among n (d where it is left out) -/
def cutIx (n d : Nat) : Option Int → Nat
  | none => d
  | some v => if v < 0 then (v + (n : Int)).toNat else min v.toNat n
def cut {α : Type} (xs : List α) (lo hi : Option Int) : List α := (xs.drop (cutIx xs.length 0 lo)).take (cutIx xs.length xs.length hi - cutIx xs.length 0 lo)
def lookT (k : List Int) : List (List Int × D) → Option D
  | [] => none
  | p :: r => if p.1 == k then some p.2 else lookT k r
def lookI (k : Int) : List (Int × D) → Option D
  | [] => none
  | p :: r => if p.1 == k then some p.2 else lookI k r
def putT (k : List Int) (v : D) (l : List (List Int × D)) : List (List Int × D) :=
  if l.any (fun p => p.1 == k) then l.map (fun p => if p.1 == k then (p.1, v) else p) else l ++ [(k, v)]
def putI (k : Int) (v : D) (l : List (Int × D)) : List (Int × D) :=
  if l.any (fun p => p.1 == k) then l.map (fun p => if p.1 == k then (p.1, v) else p) else l ++ [(k, v)]
/-- a key: a tuple of ints -/
def keyT : D → Option (List Int)
  | .tup xs => xs.mapM fun | .int i => some i | _ => none
  | _ => none
def keyI : D → Option Int
  | .int i => some i
  | _ => none

/-! ### the IR -/
inductive BOp where
  | add | sub | mul | mod | fdiv | pow
inductive COp where
  | eq | ne | lt | le | gt | ge | in_ | nin | is_ | isn
/-- built-ins -/
inductive BI where
  | len | all | any | sum | abs | int | str | tuple | list | min2 | max2
  | minL | maxL | sorted | sortK
/-- the class of an isinstance -/
inductive Cl where
  | int | bool | tuple | list | str
inductive ME where
  | append | extend | pop | popAt | get | index | join
mutual
inductive E where
  | v (i : Nat)
  | c (d : D)
  | gl (x : Nat)
  | tup (es : List E)
  | lst (es : List E)
  | emT | emI
  | dI1 (k e : E)
  | bin (op : BOp) (a b : E)
  | neg (a : E)
  | not (a : E)
  | cmp (op : COp) (a b : E)
  | chain (op op' : COp) (a b c : E)
  | and (es : List E)
  | or (es : List E)
  | ife (c a b : E)
  | ix (a i : E)
  | sl (a : E) (lo hi : Option E)
  | rev (a : E)
  | rvf (a i : E)
  | call (f : Nat) (es : List E)
  | bi (f : BI) (es : List E)
  | isi (a : E) (c : Cl)
  | me (m : ME) (o : E) (es : List E)
  | xf (i : Nat) (k : Nat)
  | xi (i : Nat) (c : Nat)
  | lrg (t : Bool) (i : I)
  | lc (t : T) (vs : List Nat) (i : I) (cond : Option E) (e : E)
  | lc2 (t : T) (vs : List Nat) (i : I) (t2 : T) (vs2 : List Nat) (i2 : I) (e : E)
  | dcT (t : T) (vs : List Nat) (i : I) (k e : E)
  | dcI (t : T) (vs : List Nat) (i : I) (k e : E)
  | reg (e : E)
/-- what is walked -/
inductive I where
  | sq (e : E)
  | rg1 (a : E)
  | rg2 (a b : E)
  | rg3 (a b c : E)
  | en (e : E)
  | zp (a b : E)
  | its (e : E)
  | vls (e : E)
/-- a target -/
inductive T where
  | nm (i : Nat)
  | tp (ts : List T)
  | ix (o i : E)
  | fld (o : E) (k : Nat)
end
mutual
inductive S where
  | asg (t : T) (e : E)
  | ex (e : E)
  | ife (c : E) (a b : List S)
  | for (t : T) (i : I) (b : List S)
  | whl (c : E) (b : List S)
  | ret (e : E)
  | retN
  | rse (c : Nat) (es : List E)
  | try (b : List S) (hs : List Hn)
  | pass | cont | brk
  /-- a statement that is never reached -/
  | no
  | fz (i : Nat)
/-- an except clause: its class, its name's slot, its suite -/
inductive Hn where
  | mk (c : Nat) (i : Option Nat) (a : List S)
end
/-- a def: its parameters' number, its slots' number, its body -/
structure Fn where
  np : Nat
  ns : Nat
  body : List S
/-! ### the evaluator -/
abbrev Env := List (Option D)
inductive O where
  | nx (env : Env) (h : AH)
  | rt (d : D) (f : Bool) (h : AH)
  | bk (env : Env) (h : AH)
  | ct (env : Env) (h : AH)
  | exc (x : Xc) (env : Env) (h : AH)
  | bad
/-- a value, and whether it is a new list or dict that nothing else holds -/
abbrev DF := D × Bool
abbrev ME' := Env → AH → R DF
structure Ev where
  e : E → Env → AH → R DF
  s : S → Env → AH → O
/-- what is known besides: the module's constants, calls -/
structure Kn where
  g : List D
  anc : List (List Nat)
  fld : List (List Nat)
  call : Nat → List D → AH → R DF

def evL (r : Ev) : List E → Env → AH → R (List D)
  | [], _, h => .ok [] h
  | e :: es, env, h => (r.e e env h).bind fun d h1 => (evL r es env h1).bind fun ds h2 => .ok (d.1 :: ds) h2

def opt {α : Type} (h : AH) : Option α → R α
  | some a => .ok a h
  | none => .bad
def P64 : Int := 18446744073709551616
def small64 (i : Int) : Bool := decide (-P64 < i) && decide (i < P64)
/-- a list's length is far below the model's line -/
def LN : Nat := 1000000
def binEv (op : BOp) (h : AH) (x y : D) : Option DF := match op with
  | .add => (match x, y with
    | .int i, .int j => some (.int (i + j), false)
    | .str s, .str t => if s.length + t.length ≤ LN then some (.str (s ++ t), false) else none
    | .tup s, .tup t => if s.length + t.length ≤ LN then some (.tup (s ++ t), false) else none
    | _, _ => (match res h x, res h y with
      | .lst s, .lst t => if s.length + t.length ≤ LN then some (.lst (s ++ t), true) else none
      | _, _ => none))
  | .sub => (match x, y with
    | .int i, .int j => some (.int (i - j), false)
    | _, _ => none)
  | .mul => (match x, y with
    | .int i, .int j => if small64 i || small64 j || decide (i.natAbs.log2 + j.natAbs.log2 < 1000000) then some (.int (i * j), false) else none
    | .lst s, .int j => if 0 ≤ j ∧ s.length * j.toNat ≤ LN ∧ j ≤ LN then some (.lst (List.replicate j.toNat s).flatten, true) else none
    | .tup s, .int j => if 2 ≤ j ∧ s.length ≤ 1000 ∧ j ≤ 1000 ∧ !s.isEmpty then some (.tup (List.replicate j.toNat s).flatten, false) else none
    | _, _ => none)
  | .mod => (match x, y with
    | .int i, .int j => if 0 < j then some (.int (i % j), false) else none
    | _, _ => none)
  | .fdiv => (match x, y with
    | .int i, .int j => if 0 < j ∧ j.natAbs.log2 < 9000 then some (.int (i / j), false) else none
    | _, _ => none)
  | .pow => (match x, y with
    | .int i, .int j => if 0 ≤ j ∧ j ≤ 1000 ∧ small64 i = true then some (.int (i ^ j.toNat), false) else none
    | _, _ => none)
def inEv (h : AH) (x y : D) : Option Bool := match y with
  | .str t => (match x with
    | .str [c] => some (t.contains c)
    | _ => none)
  | .dT kvs => (keyT x).map fun k => (lookT k kvs).isSome
  | .dI kvs => (keyI x).map fun k => (lookI k kvs).isSome
  | .ref n => (match h.os[n]? with
    | some (.lst xs) => if x.plain && plainL xs then some (xs.any fun z => deq z x) else none
    | some (.dT kvs) => (keyT x).map fun k => (lookT k kvs).isSome
    | some (.dI kvs) => (keyI x).map fun k => (lookI k kvs).isSome
    | _ => none)
  | .tup xs | .lst xs | .ktp xs => if x.plain && plainL xs then some (xs.any fun z => deq z x) else none
  | _ => none
/-- is None -/
def isNon (h : AH) : D → Option Bool
  | .non => some true
  | .exc _ _ => none
  | .ref n => (match h.os[n]? with
    | some (.lst _) | some (.dT _) | some (.dI _) => some false
    | _ => none)
  | _ => some false
def cmpEv (op : COp) (h : AH) (x y : D) : Option Bool := match op with
  | .eq => if (res h x).plain && (res h y).plain then some (deq (res h x) (res h y)) else none
  | .ne => if (res h x).plain && (res h y).plain then some (!deq (res h x) (res h y)) else none
  | .lt => (match x, y with
    | .int i, .int j => some (decide (i < j))
    | _, _ => if x.plain && y.plain && dalike x y then some (dlt x y) else none)
  | .le => (match x, y with
    | .int i, .int j => some (decide (i ≤ j))
    | _, _ => if x.plain && y.plain && dalike x y then some (!dlt y x) else none)
  | .gt => (match x, y with
    | .int i, .int j => some (decide (j < i))
    | _, _ => if x.plain && y.plain && dalike x y then some (dlt y x) else none)
  | .ge => (match x, y with
    | .int i, .int j => some (decide (j ≤ i))
    | _, _ => if x.plain && y.plain && dalike x y then some (!dlt x y) else none)
  | .in_ => inEv h x y
  | .nin => (match y with
    | .str _ => none
    | _ => (inEv h x y).map fun b => !b)
  | .is_ => (match y with
    | .non => isNon h x
    | .bl b => (match x with
      | .bl a => some (a == b)
      | _ => none)
    | _ => none)
  | .isn => (match y with
    | .non => (isNon h x).map fun b => !b
    | .bl b => (match x with
      | .bl a => some (!(a == b))
      | _ => none)
    | _ => none)
def allBl : List D → Option (List Bool)
  | [] => some []
  | .bl b :: r => (allBl r).map fun bs => b :: bs
  | _ => none
def allInt : List D → Option (List Int)
  | [] => some []
  | .int i :: r => (allInt r).map fun bs => i :: bs
  | _ => none
def dmin (x : D) (xs : List D) : D := xs.foldl (fun a y => if dlt y a then y else a) x
def dmax (x : D) (xs : List D) : D := xs.foldl (fun a y => if dlt a y then y else a) x
/-- a number's signs -/
def digs (i : Int) : List Nat := (toString i).toList.map Char.toNat
def biEv (f : BI) (h : AH) : List D → Option DF
  | [x] => (match f with
    | .len => (match x with
      | .str s => if s.length ≤ LN then some (.int s.length, false) else none
      | _ => (items h x).map fun xs => (.int xs.length, false))
    | .all => (litems h x).bind fun xs => (allBl xs).map fun bs => (.bl (bs.all id), false)
    | .any => (litems h x).bind fun xs => (allBl xs).map fun bs => (.bl (bs.any id), false)
    | .sum => (litems h x).bind fun xs => (allInt xs).map fun ns => (.int ns.sum, false)
    | .abs => (match x with
      | .int i => some (.int (if i < 0 then -i else i), false)
      | _ => none)
    | .int => (match x with
      | .int i => some (.int i, false)
      | .bl b => some (.int (if b then 1 else 0), false)
      | _ => none)
    | .str => (match x with
      | .int i => if small64 i then some (.str (digs i), false) else none
      | _ => none)
    | .tuple => (match x with
      | .tup xs => some (.tup xs, false)
      | _ => (litems h x).map fun xs => (.tup xs, false))
    | .list => (stems h x).map fun xs => (.lst xs, true)
    | .minL => (stems h x).bind fun xs => (match xs with
      | [] => none
      | a :: r => if sortable (a :: r) then some (dmin a r, false) else none)
    | .maxL => (stems h x).bind fun xs => (match xs with
      | [] => none
      | a :: r => if sortable (a :: r) then some (dmax a r, false) else none)
    | .sorted => (stems h x).bind fun xs => if sortable xs && decide (xs.length ≤ LN) then some (.lst (dsort xs), true) else none
    | .sortK => (walkedD h x).bind fun xs => if sortable xs && decide (xs.length ≤ LN) then some (.lst (dsort xs), true) else none
    | _ => none)
  | [x, y] => (match f with
    | .min2 => (match x, y with
      | .int i, .int j => some (.int (if j < i then j else i), false)
      | _, _ => none)
    | .max2 => (match x, y with
      | .int i, .int j => some (.int (if j > i then j else i), false)
      | _, _ => none)
    | _ => none)
  | _ => none
def isiEv (c : Cl) (h : AH) (x : D) : Option Bool := match x with
  | .non => (match c with | _ => some false)
  | .bl _ => (match c with | .int | .bool => some true | _ => some false)
  | .int _ => (match c with | .int => some true | _ => some false)
  | .str _ => (match c with | .str => some true | _ => some false)
  | .tup _ => (match c with | .tuple => some true | _ => some false)
  | .lst _ => (match c with | .list => some true | _ => some false)
  | .ref n => (match h.os[n]? with
    | some (.lst _) => (match c with | .list => some true | _ => some false)
    | _ => none)
  | _ => none
/-- a dict of either kind -/
inductive DD where
  | t (kvs : List (List Int × D)) | i (kvs : List (Int × D))
def ddOf (h : AH) : D → Option DD
  | .dT kvs => some (.t kvs)
  | .dI kvs => some (.i kvs)
  | .ref n => match h.os[n]? with
    | some (.dT kvs) => some (.t kvs)
    | some (.dI kvs) => some (.i kvs)
    | _ => none
  | _ => none
def ddLook (x : D) : DD → Option (Option D)
  | .t kvs => (keyT x).map fun k => lookT k kvs
  | .i kvs => (keyI x).map fun k => lookI k kvs
def ixEv (h : AH) (x i : D) : Option DF := match ddOf h x with
  | some dd => (ddLook i dd).bind fun o => o.map fun d => (d, false)
  | none => (match i with
    | .int j => (match x with
      | .str s => if s.length ≤ LN then (ixOf s.length j).bind fun k => s[k]?.map fun c => (.str [c], false) else none
      | _ => (items h x).bind fun xs => (ixOf xs.length j).bind fun k => xs[k]?.map fun d => (d, false))
    | _ => none)
def slEv (h : AH) (x : D) (lo hi : Option Int) : Option DF := match x with
  | .str s => if s.length ≤ LN then some (.str (cut s lo hi), false) else none
  | .tup xs => some (.tup (cut xs lo hi), false)
  | _ => (litems h x).map fun xs => (.lst (cut xs lo hi), true)
def revEv (h : AH) (x : D) : Option DF := match x with
  | .tup xs => some (.tup xs.reverse, false)
  | _ => (litems h x).map fun xs => (.lst xs.reverse, true)
/-- t[i::-1] -/
def rvfEv : D → D → Option DF
  | .tup xs, .int i => if 0 ≤ i then some (.tup (xs.take (i.toNat + 1)).reverse, false) else none
  | _, _ => none
/-- a method's receiver, before the arguments -/
def meTy (m : ME) (h : AH) (x : D) : Bool := match m with
  | .append | .extend | .pop | .popAt | .index => (litems h x).isSome
  | .get => (ddOf h x).isSome
  | .join => false
/-- a registered list rewritten -/
def AH.put (h : AH) (n : Nat) (o : Ob) (t : Nat) : AH := ⟨h.os.set n o, max h.fl t⟩
def meEv (m : ME) (h : AH) (x : D) (ys : List D) : R DF := match m, x, ys with
  | .append, .ref n, [y] => (match h.os[n]? with
    | some (.lst xs) => if xs.length < LN then .ok (.non, false) (h.put n (.lst (xs ++ [y])) y.top) else .bad
    | _ => .bad)
  | .extend, .ref n, [y] => (match h.os[n]?, y with
    | some (.lst xs), .lst ys => if xs.length + ys.length ≤ LN then .ok (.non, false) (h.put n (.lst (xs ++ ys)) (topL ys)) else .bad
    | _, _ => .bad)
  | .pop, .ref n, [] => (match h.os[n]? with
    | some (.lst xs) => (match xs[xs.length - 1]? with
      | some y => .ok (y, false) (h.put n (.lst xs.dropLast) 0)
      | none => .bad)
    | _ => .bad)
  | .popAt, .ref n, [.int i] => (match h.os[n]? with
    | some (.lst xs) => (match ixOf xs.length i with
      | some k => (match xs[k]? with
        | some y => .ok (y, false) (h.put n (.lst (xs.eraseIdx k)) 0)
        | none => .bad)
      | none => .bad)
    | _ => .bad)
  | .get, x, [k, d] => (match ddOf h x with
    | some dd => opt h ((ddLook k dd).map fun o => (o.getD d, false))
    | none => .bad)
  | .index, x, [y] => opt h ((litems h x).bind fun xs => if noS 12 y && xs.all (noS 11) then (xs.findIdx? fun z => deq z y).map fun k : Nat => (D.int (k : Int), false) else none)
  | _, _, _ => .bad
/-- a new object -/
def AH.new (h : AH) (o : Ob) (t : Nat) : AH := ⟨h.os ++ [o], max h.fl t⟩
def regEv (h : AH) : DF → R DF
  | (.lst xs, true) => .ok (.ref h.os.length, false) (h.new (.lst xs) (topL xs))
  | (.dT kvs, true) => .ok (.ref h.os.length, false) (h.new (.dT kvs) (topT kvs))
  | (.dI kvs, true) => .ok (.ref h.os.length, false) (h.new (.dI kvs) (topI kvs))
  | _ => .bad
/-- o[i] = d -/
def setEv (h : AH) (o i d : D) : Option AH := match o with
  | .ref n => (match h.os[n]? with
    | some (.lst xs) => (match i with
      | .int j => (ixOf xs.length j).map fun k => h.put n (.lst (xs.set k d)) d.top
      | _ => none)
    | some (.dT kvs) => (keyT i).bind fun k => if kvs.length < LN then some (h.put n (.dT (putT k d kvs)) d.top) else none
    | some (.dI kvs) => (keyI i).bind fun k => if kvs.length < LN then some (h.put n (.dI (putI k d kvs)) d.top) else none
    | _ => none)
  | _ => none
/-- no exception leaves -/
def R.nox {α : Type} : R α → R α
  | .exc _ _ => .bad
  | r => r
/-- what is unpacked -/
def tems : D → Option (List D)
  | .tup xs | .ktp xs | .lst xs => some xs
  | _ => none
def asgL (f : T → D → Env → AH → R Env) : List T → List D → Env → AH → R Env
  | [], [], env, h => .ok env h
  | t :: ts, x :: xs, env, h => (f t x env h).bind fun env1 h1 => asgL f ts xs env1 h1
  | _, _, _, _ => .bad
def asgT (r : Ev) : Nat → T → D → Env → AH → R Env
  | 0, _, _, _, _ => .bad
  | k + 1, t, d, env, h => match t with
    | .nm i => if i < env.length then .ok (env.set i (some d)) h else .bad
    | .tp ts => (match tems d with
      | some xs => if xs.length = ts.length then asgL (asgT r k) ts xs env h else .bad
      | none => .bad)
    | .ix o i => (r.e o env h).nox.bind fun od h1 => (r.e i env h1).nox.bind fun id h2 => (match setEv h2 od.1 id.1 d with
      | some h3 => .ok env h3
      | none => .bad)
    | .fld _ _ => .bad
def rgL (a b : Int) : List D := (List.range (b - a).toNat).map fun i => .int (a + (i : Nat))
def rgOk (a b : Int) : Bool := decide (-1000000 ≤ a) && decide (a ≤ 1000000) && decide (-1000000 ≤ b) && decide (b ≤ 1000000)
def enL (xs : List D) (n : Nat) : List D := match xs with
  | [] => []
  | x :: r => .tup [.int (n : Int), x] :: enL r (n + 1)
def imm (d : D) : Bool := match d with
  | .ref _ => false
  | _ => true
/-- a tuple -/
def isTp : D → Bool
  | .tup _ | .ktp _ => true
  | _ => false
/-- the items that are walked (of immediate things) -/
def itEv (r : Ev) (i : I) (env : Env) (h : AH) : R (List D) := match i with
  | .sq e => (r.e e env h).bind fun d h1 => if imm d.1 then opt h1 (items h1 d.1) else .bad
  | .rg1 a => (r.e a env h).bind fun d h1 => (match d.1 with
    | .int n => if rgOk 0 n then .ok (rgL 0 n) h1 else .bad
    | _ => .bad)
  | .rg2 a b => (r.e a env h).bind fun d h1 => (r.e b env h1).bind fun d2 h2 => (match d.1, d2.1 with
    | .int m, .int n => if rgOk m n then .ok (rgL m n) h2 else .bad
    | _, _ => .bad)
  | .en e => (r.e e env h).bind fun d h1 => if imm d.1 then opt h1 ((items h1 d.1).map fun xs => enL xs 0) else .bad
  | .zp a b => (r.e a env h).bind fun d h1 => (r.e b env h1).bind fun d2 h2 =>
      if imm d.1 && imm d2.1 && isTp d.1 == isTp d2.1 then opt h2 ((items h2 d.1).bind fun xs => (items h2 d2.1).map fun ys => (xs.zip ys).map fun p => .tup [p.1, p.2]) else .bad
  | .its e => (r.e e env h).bind fun d h1 => (match d.1 with
    | .dT kvs => .ok (kvs.map fun p => .tup [.tup (p.1.map .int), p.2]) h1
    | .dI kvs => .ok (kvs.map fun p => .tup [.int p.1, p.2]) h1
    | _ => .bad)
  | .vls e => (r.e e env h).bind fun d h1 => (match d.1 with
    | .dT kvs => .ok (kvs.map fun p => p.2) h1
    | .dI kvs => .ok (kvs.map fun p => p.2) h1
    | _ => .bad)
  | .rg3 _ _ _ => .bad
def wipeE (env : Env) : List Nat → Env
  | [] => env
  | v :: vs => (wipeE env vs).set v none
/-- the turns of a comprehension -/
def lcEv {β : Type} (body : D → AH → R (Option β)) : List D → AH → R (List β)
  | [], h => .ok [] h
  | x :: xs, h => (body x h).bind fun y h1 => (lcEv body xs h1).bind fun ys h2 => .ok (match y with | some y => y :: ys | none => ys) h2
/-- one turn: the target, the test, the element -/
def turnEv (r : Ev) (t : T) (vs : List Nat) (c : Option E) (e : E) (env : Env) (x : D) (h : AH) : R (Option D) :=
  (asgT r 4 t x (wipeE env vs) h).bind fun env1 h1 => match c with
    | none => (r.e e env1 h1).bind fun d h2 => .ok (some d.1) h2
    | some c => (r.e c env1 h1).bind fun b h2 => (match tru h2 b.1 with
      | some true => (r.e e env1 h2).bind fun d h3 => .ok (some d.1) h3
      | some false => .ok none h2
      | none => .bad)
def turnEv2 (r : Ev) (t : T) (vs : List Nat) (t2 : T) (vs2 : List Nat) (i2 : I) (e : E) (env : Env) (x : D) (h : AH) : R (Option (List D)) :=
  (asgT r 4 t x (wipeE env vs) h).bind fun env1 h1 => (itEv r i2 env1 h1).bind fun xs h2 => (lcEv (turnEv r t2 vs2 none e env1) xs h2).bind fun ys h3 => .ok (some ys) h3
def turn2Ev (r : Ev) (t : T) (ke : Env → AH → R (D × D)) (vs : List Nat) (env : Env) (x : D) (h : AH) : R (D × D) :=
  (asgT r 4 t x (wipeE env vs) h).bind fun env1 h1 => ke env1 h1
def dcEv {κ : Type} (key : D → Option κ) (put : κ → D → List (κ × D) → List (κ × D)) (body : D → AH → R (D × D)) : List D → List (κ × D) → AH → R (List (κ × D))
  | [], acc, h => .ok acc h
  | x :: xs, acc, h => (body x h).bind fun p h1 => match key p.1 with
    | some k => dcEv key put body xs (put k p.2 acc) h1
    | none => .bad
def andEv (r : Ev) : List E → Env → AH → R DF
  | [], _, _ => .bad
  | [e], env, h => r.e e env h
  | e :: es, env, h => (r.e e env h).bind fun d h1 => match tru h1 d.1 with
    | some true => andEv r es env h1
    | some false => .ok (d.1, false) h1
    | none => .bad
def orEv (r : Ev) : List E → Env → AH → R DF
  | [], _, _ => .bad
  | [e], env, h => r.e e env h
  | e :: es, env, h => (r.e e env h).bind fun d h1 => match tru h1 d.1 with
    | some true => .ok (d.1, false) h1
    | some false => orEv r es env h1
    | none => .bad
def partEv (r : Ev) (o : Option E) (env : Env) (h : AH) : R (Option Int) := match o with
  | none => .ok none h
  | some e => (r.e e env h).bind fun d h1 => (match d.1 with
    | .int i => .ok (some i) h1
    | _ => .bad)
def eEv (K : Kn) (r : Ev) (e : E) (env : Env) (h : AH) : R DF := match e with
  | .v i => (match env[i]? with
    | some (some d) => .ok (d, false) h
    | _ => .bad)
  | .c d => .ok (d, false) h
  | .gl x => opt h (K.g[x]?.map fun d => (d, false))
  | .tup es => (evL r es env h).bind fun ds h1 => if ds.length ≤ LN then .ok (.tup ds, false) h1 else .bad
  | .lst es => (evL r es env h).bind fun ds h1 => if ds.length ≤ LN then .ok (.lst ds, true) h1 else .bad
  | .emT => .ok (.dT [], true) h
  | .emI => .ok (.dI [], true) h
  | .dI1 k e => (r.e k env h).nox.bind fun a h1 => (r.e e env h1).nox.bind fun b h2 => (match a.1 with
    | .int i => .ok (.dI [(i, b.1)], true) h2
    | _ => .bad)
  | .bin op a b => (r.e a env h).bind fun x h1 => (r.e b env h1).bind fun y h2 => opt h2 (binEv op h2 x.1 y.1)
  | .neg a => (r.e a env h).bind fun x h1 => (match x.1 with
    | .int i => .ok (.int (-i), false) h1
    | _ => .bad)
  | .not a => (r.e a env h).bind fun x h1 => (match tru h1 x.1 with
    | some b => .ok (.bl (!b), false) h1
    | none => .bad)
  | .cmp op a b => (r.e a env h).bind fun x h1 => (r.e b env h1).bind fun y h2 => (match cmpEv op h2 x.1 y.1 with
    | some k => .ok (.bl k, false) h2
    | none => .bad)
  | .chain op op' a b c => (r.e a env h).bind fun x h1 => (r.e b env h1).bind fun y h2 => (match cmpEv op h2 x.1 y.1 with
    | some true => (r.e c env h2).bind fun z h3 => (match cmpEv op' h3 y.1 z.1 with
      | some k => .ok (.bl k, false) h3
      | none => .bad)
    | some false => .ok (.bl false, false) h2
    | none => .bad)
  | .and es => andEv r es env h
  | .or es => orEv r es env h
  | .ife c a b => (r.e c env h).bind fun x h1 => (match tru h1 x.1 with
    | some true => r.e a env h1
    | some false => r.e b env h1
    | none => .bad)
  | .ix a i => (r.e a env h).bind fun x h1 => (r.e i env h1).bind fun y h2 => opt h2 (ixEv h2 x.1 y.1)
  | .sl a lo hi => (r.e a env h).bind fun x h1 => (partEv r lo env h1).bind fun l h2 => (partEv r hi env h2).bind fun u h3 => opt h3 (slEv h3 x.1 l u)
  | .rev a => (r.e a env h).bind fun x h1 => opt h1 (revEv h1 x.1)
  | .rvf a i => (r.e a env h).bind fun x h1 => (r.e i env h1).bind fun y h2 => opt h2 (rvfEv x.1 y.1)
  | .call f es => (evL r es env h).bind fun ds h1 => K.call f ds h1
  | .bi f es => (evL r es env h).bind fun ds h1 => opt h1 (biEv f h1 ds)
  | .isi a c => (r.e a env h).bind fun x h1 => opt h1 ((isiEv c h1 x.1).map fun b => (.bl b, false))
  | .me m o es => (r.e o env h).bind fun x h1 => if meTy m h1 x.1 then (evL r es env h1).bind fun ds h2 => meEv m h2 x.1 ds else .bad
  | .xf i k => (match env[i]? with
    | some (some (.exc c fs)) => if c = 0 then .bad else opt h ((K.fld[c]?.bind fun l => l.findIdx? (· == k)).bind fun j => fs[j]?.map fun d => (d, false))
    | _ => .bad)
  | .xi i c => (match env[i]? with
    | some (some (.exc d _)) => if d = 0 then .bad else opt h (K.anc[d]?.map fun l => (.bl (l.contains c), false))
    | _ => .bad)
  | .lrg t i => (itEv r i env h).bind fun xs h1 => .ok (if t then (.tup xs, false) else (.lst xs, true)) h1
  | .lc t vs i c e => (itEv r i env h).bind fun xs h1 => (lcEv (fun x h => (turnEv r t vs c e env x h).nox) xs h1).bind fun ys h2 => if ys.length ≤ LN ∧ xs.length ≤ LN then .ok (.lst ys, true) h2 else .bad
  | .lc2 t vs i t2 vs2 i2 e => (itEv r i env h).bind fun xs h1 => (lcEv (fun x h => (turnEv2 r t vs t2 vs2 i2 e env x h).nox) xs h1).bind fun yss h2 => if yss.flatten.length ≤ LN ∧ xs.length ≤ LN then .ok (.lst yss.flatten, true) h2 else .bad
  | .dcT t vs i k e => (itEv r i env h).bind fun xs h1 => (dcEv keyT putT (fun x h => (turn2Ev r t (fun env h => (r.e k env h).bind fun a h1 => (r.e e env h1).bind fun b h2 => .ok (a.1, b.1) h2) vs env x h).nox) xs [] h1).bind fun kvs h2 => .ok (.dT kvs, true) h2
  | .dcI t vs i k e => (itEv r i env h).bind fun xs h1 => (dcEv keyI putI (fun x h => (turn2Ev r t (fun env h => (r.e k env h).bind fun a h1 => (r.e e env h1).bind fun b h2 => .ok (a.1, b.1) h2) vs env x h).nox) xs [] h1).bind fun kvs h2 => .ok (.dI kvs, true) h2
  | .reg e => (r.e e env h).bind fun d h1 => regEv h1 d
/-- an expression within a statement -/
def R.o {α : Type} (env : Env) (r : R α) (f : α → AH → O) : O := match r with
  | .ok a h => f a h
  | .exc x h => .exc x env h
  | .bad => .bad
def O.then (o : O) (f : Env → AH → O) : O := match o with
  | .nx env h => f env h
  | o => o
def ssEv (r : Ev) : List S → Env → AH → O
  | [], env, h => .nx env h
  | s :: ss, env, h => (r.s s env h).then fun env h => ssEv r ss env h
/-- behind a loop's body -/
def O.loop (o : O) (f : Env → AH → O) : O := match o with
  | .nx env h => f env h
  | .ct env h => f env h
  | .bk env h => .nx env h
  | o => o
/-- a for loop over items -/
def forEv (asg : D → Env → AH → R Env) (body : Env → AH → O) : List D → Env → AH → O
  | [], env, h => .nx env h
  | x :: xs, env, h => (asg x env h).o env fun env h => (body env h).loop (forEv asg body xs)
def whlEv (c : Env → AH → R DF) (body : Env → AH → O) : Nat → Env → AH → O
  | 0, _, _ => .bad
  | k + 1, env, h => (c env h).o env fun d h => match tru h d.1 with
    | some true => (body env h).loop (whlEv c body k)
    | some false => .nx env h
    | none => .bad
/-- the turns that a while may take -/
def WN : Nat := 100000
def nxO : Option D → Bool
  | some d => noX d
  | none => true
def goN : Option Nat → Env → Env
  | none, env => env
  | some i, env => env.set i none
def inNE : Option Nat → Xc → Env → Env
  | none, _, env => env
  | some i, x, env => env.set i (some (.exc x.c x.fs))
/-- behind an except clause's suite: its name goes -/
def sufO (i : Option Nat) : O → O
  | .nx env h => if (goN i env).all nxO then .nx (goN i env) h else .bad
  | .bk env h => if (goN i env).all nxO then .bk (goN i env) h else .bad
  | .ct env h => if (goN i env).all nxO then .ct (goN i env) h else .bad
  | .rt d f h => .rt d f h
  | _ => .bad
def hnEv (anc : List (List Nat)) (r : Ev) (x : Xc) (env : Env) (h : AH) : List Hn → O
  | [] => .exc x env h
  | .mk c i a :: hs => if c = 0 ∨ x.c = 0 ∨ anc.length ≤ c then .bad else match anc[x.c]? with
    | some l => if l.contains c then sufO i (ssEv r a (inNE i x env) h) else hnEv anc r x env h hs
    | none => .bad
def sEv (K : Kn) (r : Ev) (s : S) (env : Env) (h : AH) : O := match s with
  | .asg t e => (r.e e env h).o env fun d h1 => (asgT r 4 t d.1 env h1).o env fun env h2 => .nx env h2
  | .ex e => (r.e e env h).o env fun _ h1 => .nx env h1
  | .ife c a b => (r.e c env h).o env fun x h1 => (match tru h1 x.1 with
    | some true => ssEv r a env h1
    | some false => ssEv r b env h1
    | none => .bad)
  | .for t i b => (itEv r i env h).o env fun xs h1 => forEv (asgT r 4 t) (ssEv r b) xs env h1
  | .whl c b => whlEv (r.e c) (ssEv r b) WN env h
  | .ret e => (r.e e env h).o env fun d h1 => .rt d.1 d.2 h1
  | .retN => .rt .non false h
  | .rse c es => (evL r es env h).o env fun ds h1 => if ds.length = 1 then .exc ⟨c, ds⟩ env h1 else .bad
  | .no => .bad
  | .pass => .nx env h
  | .cont => .ct env h
  | .brk => .bk env h
  | .fz i => (match env[i]? with
    | some (some (.ref n)) => (match h.os[n]? with
      | some (.lst xs) => .nx (env.set i (some (.lst xs))) ⟨h.os.set n .dead, h.fl⟩
      | some (.dT xs) => .nx (env.set i (some (.dT xs))) ⟨h.os.set n .dead, h.fl⟩
      | some (.dI xs) => .nx (env.set i (some (.dI xs))) ⟨h.os.set n .dead, h.fl⟩
      | _ => .bad)
    | _ => .bad)
  | .try b hs => (match ssEv r b env h with
    | .exc x env h => hnEv K.anc r x env h hs
    | o => o)
def step (K : Kn) (r : Ev) : Ev := ⟨eEv K r, sEv K r⟩
def evN (K : Kn) : Nat → Ev
  | 0 => ⟨fun _ _ _ => .bad, fun _ _ _ => .bad⟩
  | n + 1 => step K (evN K n)
def Ob.top : Ob → Nat
  | .lst xs => topL xs
  | .dT kvs => topT kvs
  | .dI kvs => topI kvs
  | _ => 0
/-- a registered thing of this def that holds nothing registered in it -/
def flat (os : List Ob) (n : Nat) : D → Bool
  | .ref m => decide (n ≤ m) && (match os[m]? with
    | some o => decide (o.top ≤ n)
    | none => false)
  | _ => false
def leave (n : Nat) (d : D) (f : Bool) (h : AH) : R DF :=
  if h.fl ≤ n then
    (if (frz h.os n 8 d).top ≤ n then .ok (frz h.os n 8 d, f || flat h.os n d) ⟨h.os.take n, h.fl⟩ else .bad)
  else .ok (d, f) h
def exitF (n : Nat) : O → R DF
  | .rt d f h => leave n d f h
  | .nx _ h => leave n .non false h
  | .exc x _ h => if h.fl ≤ n ∧ topL x.fs = 0 then .exc x ⟨h.os.take n, h.fl⟩ else .bad
  | _ => .bad
/-- the nesting that a body may have -/
def DN : Nat := 60
structure Pg where
  g : List D
  anc : List (List Nat)
  fld : List (List Nat)
  fs : List Fn
def callN (P : Pg) : Nat → Nat → List D → AH → R DF
  | 0, _, _, _ => .bad
  | k + 1, f, ds, h => match P.fs[f]? with
    | some fn => if ds.length = fn.np then exitF h.os.length (ssEv (evN ⟨P.g, P.anc, P.fld, callN P k⟩ DN) fn.body (ds.map some ++ List.replicate (fn.ns - fn.np) none) h) else .bad
    | none => .bad
end Rw
end

section
set_option Elab.async false
set_option linter.all false
set_option maxRecDepth 100000
set_option maxHeartbeats 4000000
/-! RfS1: how the evaluator's values stand in the abstract heap of HandS. -/
namespace Rw
open PySem PySem.Spec PyProof.Rows L2

/-- where the registered objects stand (none: frozen since) -/
structure AL where
  r : List (Option Addr)
  /-- what stands guarded: a list or a dict that a comprehension fills -/
  g : List Addr
def Rg (al : AL) (p : Addr) : Prop := ∃ n : Nat, al.r[n]? = some (some p)
def At (al : AL) (p : Addr) : Prop := Rg al p ∨ p ∈ al.g
/-- a list, a tuple of the written part -/
def KL (K : PySem.W.Frag) (a : Addr) (xs : List V) : Prop :=
  ∃ (o : Obj) (its : Array Value) (n : Nat), K.lookup a = some o ∧ o.cls = .type "list" ∧ o.dict = none ∧ o.data = .seq its n ∧ its.size ≤ sizeLine ∧ Vals xs its.toList
def KTu (K : PySem.W.Frag) (a : Addr) (xs : List V) : Prop :=
  ∃ (o : Obj) (its : Array Value) (n : Nat), K.lookup a = some o ∧ o.cls = .type "tuple" ∧ o.data = .seq its n ∧ its.size ≤ sizeLine ∧ Vals xs its.toList
def TuAt (K : PySem.W.Frag) (H : Hp) (al : AL) (p : Addr) (vs : List V) : Prop := H p = some (.tup vs) ∧ ¬ At al p
def ScAt (K : PySem.W.Frag) (H : Hp) (al : AL) (p : Addr) (vs : List V) : Prop := ((∃ o, H p = some (.frz o (.lst vs))) ∧ ¬ At al p) ∨ KL K p vs
def keyL (ks : List Int) : List Key := ks.map Sum.inl
/-- the classes and their fields by number -/
structure CI where
  cls : Nat → Value
  fld : Nat → List Str
  xa : Option (Addr × Nat × Addr)
  /-- the slot of the exception that a suite holds -/
  xi : Option Nat
mutual
def Rep (C : CI) (K : PySem.W.Frag) (H : Hp) (al : AL) : D → V → Prop
  | .non, v => v = .non
  | .bl b, v => v = .bl b
  | .int i, v => v = .int i
  | .str s, v => v = .str ⟨s.toArray⟩
  | .tup xs, v => ∃ p vs, v = .ref p ∧ TuAt K H al p vs ∧ RepL C K H al xs vs
  | .lst xs, v => ∃ p vs, v = .ref p ∧ (H p = some (.lst vs) ∧ ¬ At al p) ∧ RepL C K H al xs vs
  | .dT kvs, v => ∃ p ws, v = .ref p ∧ (H p = some (.dT ws) ∧ ¬ At al p) ∧ RepT C K H al kvs ws
  | .dI kvs, v => ∃ p ws, v = .ref p ∧ (H p = some (.dK ws) ∧ ¬ At al p) ∧ RepI C K H al kvs ws
  | .ref n, v => n < al.r.length ∧ ∀ p, al.r[n]? = some (some p) → v = .ref p
  | .scr ns, v => ∃ p, v = .ref p ∧ ScAt K H al p (ns.map V.int)
  | .ktp xs, v => ∃ p vs, v = .ref p ∧ KTu K p vs ∧ RepL C K H al xs vs
  | .exc _ _, _ => False
def RepL (C : CI) (K : PySem.W.Frag) (H : Hp) (al : AL) : List D → List V → Prop
  | [], vs => vs = []
  | x :: xs, vs => ∃ v r, vs = v :: r ∧ Rep C K H al x v ∧ RepL C K H al xs r
def RepT (C : CI) (K : PySem.W.Frag) (H : Hp) (al : AL) : List (List Int × D) → List (List Key × V) → Prop
  | [], vs => vs = []
  | (k, x) :: xs, vs => ∃ v r, vs = (keyL k, v) :: r ∧ Rep C K H al x v ∧ RepT C K H al xs r
def RepI (C : CI) (K : PySem.W.Frag) (H : Hp) (al : AL) : List (Int × D) → List (Key × V) → Prop
  | [], vs => vs = []
  | (k, x) :: xs, vs => ∃ v r, vs = (Sum.inl k, v) :: r ∧ Rep C K H al x v ∧ RepI C K H al xs r
end
/-- what stands for a value in one state stands for it in the other -/
structure ExtW (al : AL) (H : Hp) (al' : AL) (H' : Hp) : Prop where
  len : al.r.length ≤ al'.r.length
  old : ∀ (n : Nat) (p : Addr), al'.r[n]? = some (some p) → (n < al.r.length ∧ al.r[n]? = some (some p)) ∨ (al.r.length ≤ n ∧ H p = none)
  kp : ∀ b o, H b = some o → ¬ At al b → H' b = some o
  gd : ∀ p ∈ al'.g, p ∈ al.g ∨ H p = none
/-- a later state of the tracked heap; guards may have come -/
structure Ext0 (al : AL) (H : Hp) (al' : AL) (H' : Hp) : Prop extends ExtW al H al' H' where
  trk : ∀ b o, H b = some o → H' b ≠ none
/-- .. none came; what is guarded is kept -/
structure Ext (al : AL) (H : Hp) (al' : AL) (H' : Hp) : Prop extends Ext0 al H al' H' where
  ge : al'.g = al.g
  gk : ∀ b o, b ∈ al.g → H b = some o → ¬ Rg al b → H' b = some o
instance {al al' : AL} {H H' : Hp} : Coe (Ext al H al' H') (Ext0 al H al' H') := ⟨Ext.toExt0⟩
theorem lt_of_at {α : Type} {l : List α} {n : Nat} {x : α} (e : l[n]? = some x) : n < l.length := (List.getElem?_eq_some_iff.mp e).1
theorem Ext.refl (al : AL) (H : Hp) : Ext al H al H where
  len := Nat.le_refl _
  old := fun n p e => .inl ⟨lt_of_at e, e⟩
  kp := fun _ _ e _ => e
  gd := fun _ h => .inl h
  trk := fun _ _ e z => by rw [e] at z; cases z
  ge := rfl
  gk := fun _ _ _ e _ => e
section
variable {al al' al'' : AL} {H H' H'' : Hp}
theorem ExtW.keep (x : ExtW al H al' H') (b : Addr) (o : HO) (e : H b = some o) (n : ¬ At al b) : H' b = some o := x.kp b o e n
theorem ExtW.notRg (x : ExtW al H al' H') {b : Addr} {o : HO} (e : H b = some o) (n : ¬ Rg al b) : ¬ Rg al' b := by
  rintro ⟨k, z⟩
  rcases x.old k b z with ⟨_, q⟩ | ⟨_, q⟩
  · exact n ⟨k, q⟩
  · rw [e] at q; cases q
theorem ExtW.notAt (x : ExtW al H al' H') {b : Addr} {o : HO} (e : H b = some o) (n : ¬ At al b) : ¬ At al' b := by
  rintro (z | z)
  · exact x.notRg e (fun q => n (.inl q)) z
  · rcases x.gd b z with q | q
    · exact n (.inr q)
    · rw [e] at q; cases q
theorem Ext0.fresh (x : Ext0 al H al' H') {p : Addr} (e : H' p = none) : H p = none := by
  cases z : H p with
  | none => rfl
  | some o => exact absurd e (x.trk p o z)
theorem Ext0.trans (x : Ext0 al H al' H') (y : Ext0 al' H' al'' H'') : Ext0 al H al'' H'' where
  len := Nat.le_trans x.len y.len
  old := fun n p e => by
    rcases y.old n p e with ⟨h1, q⟩ | ⟨h1, q⟩
    · exact x.old n p q
    · exact .inr ⟨Nat.le_trans x.len h1, x.fresh q⟩
  kp := fun b o e n => y.kp b o (x.kp b o e n) (x.notAt e n)
  gd := fun p h => by
    rcases y.gd p h with h | h
    · exact x.gd p h
    · exact .inr (x.fresh h)
  trk := fun b o e z => by
    cases q : H' b with
    | none => exact x.trk b o e q
    | some o' => exact y.trk b o' q z
theorem Ext.trans (x : Ext al H al' H') (y : Ext al' H' al'' H'') : Ext al H al'' H'' where
  toExt0 := x.toExt0.trans y.toExt0
  ge := y.ge.trans x.ge
  gk := fun b o h e n => y.gk b o (x.ge ▸ h) (x.gk b o h e n) (x.notRg e n)
/-- a new object -/
theorem Ext.new {p : Addr} {o : HO} (h : H p = none) : Ext al H al (upd H p o) where
  len := Nat.le_refl _
  old := fun n q e => .inl ⟨lt_of_at e, e⟩
  kp := fun b u e _ => by rw [upd_ne (ne_of_none e h)]; exact e
  gd := fun _ h => .inl h
  trk := fun b u e z => by rw [upd_ne (ne_of_none e h)] at z; rw [e] at z; cases z
  ge := rfl
  gk := fun b u _ e _ => by rw [upd_ne (ne_of_none e h)]; exact e
/-- a registered object written -/
theorem Ext.write {p : Addr} {o : HO} (h : Rg al p) : Ext al H al (upd H p o) where
  len := Nat.le_refl _
  old := fun n q e => .inl ⟨lt_of_at e, e⟩
  kp := fun b u e n => by
    have hb : b ≠ p := fun z => by subst z; exact n (.inl h)
    rw [upd_ne hb]; exact e
  gd := fun _ h => .inl h
  trk := fun b u e z => by
    by_cases q : b = p
    · rw [q, upd_same] at z; cases z
    · rw [upd_ne q, e] at z; cases z
  ge := rfl
  gk := fun b u _ e n => by
    have hb : b ≠ p := fun z => by subst z; exact n h
    rw [upd_ne hb]; exact e
end
section
variable {C : CI} {K : PySem.W.Frag} {al al' : AL} {H H' : Hp}
theorem TuAt.ext (x : ExtW al H al' H') {p : Addr} {vs : List V} (h : TuAt K H al p vs) : TuAt K H' al' p vs := by
  obtain ⟨e, n⟩ := h
  exact ⟨x.keep _ _ e n, x.notAt e n⟩
theorem ScAt.ext (x : ExtW al H al' H') {p : Addr} {vs : List V} (h : ScAt K H al p vs) : ScAt K H' al' p vs := by
  rcases h with ⟨⟨o, e⟩, n⟩ | h
  · exact .inl ⟨⟨o, x.keep _ _ e n⟩, x.notAt e n⟩
  · exact .inr h
theorem TuAt.sq {p : Addr} {vs : List V} (h : TuAt K H al p vs) : SqT K H p vs := by
  exact .inl (.inl h.1)
theorem ScAt.sq {p : Addr} {vs : List V} (h : ScAt K H al p vs) : SqL K H p vs := by
  rcases h with ⟨⟨o, e⟩, _⟩ | h
  · exact .inl (.inr ⟨o, e⟩)
  · exact .inr h
mutual
theorem Rep.extW (x : ExtW al H al' H') : ∀ (d : D) {v : V}, Rep C K H al d v → Rep C K H' al' d v
  | .non, _, h => h
  | .bl _, _, h => h
  | .int _, _, h => h
  | .str _, _, h => h
  | .tup xs, v, h => by
    obtain ⟨p, vs, e, t, r⟩ := h
    exact ⟨p, vs, e, t.ext x, RepL.extW x xs r⟩
  | .lst xs, v, h => by
    obtain ⟨p, vs, e, ⟨t, n⟩, r⟩ := h
    exact ⟨p, vs, e, ⟨x.keep _ _ t n, x.notAt t n⟩, RepL.extW x xs r⟩
  | .dT xs, v, h => by
    obtain ⟨p, vs, e, ⟨t, n⟩, r⟩ := h
    exact ⟨p, vs, e, ⟨x.keep _ _ t n, x.notAt t n⟩, RepT.extW x xs r⟩
  | .dI xs, v, h => by
    obtain ⟨p, vs, e, ⟨t, n⟩, r⟩ := h
    exact ⟨p, vs, e, ⟨x.keep _ _ t n, x.notAt t n⟩, RepI.extW x xs r⟩
  | .ref n, v, h => by
    obtain ⟨h1, h2⟩ := h
    refine ⟨Nat.lt_of_lt_of_le h1 x.len, fun p e => ?_⟩
    rcases x.old n p e with ⟨_, q⟩ | ⟨q, _⟩
    · exact h2 p q
    · exact absurd h1 (Nat.not_lt.mpr q)
  | .scr ns, v, h => by
    obtain ⟨p, e, t⟩ := h
    exact ⟨p, e, t.ext x⟩
  | .ktp xs, v, h => by
    obtain ⟨p, vs, e, t, r⟩ := h
    exact ⟨p, vs, e, t, RepL.extW x xs r⟩
  | .exc _ _, _, h => h
theorem RepL.extW (x : ExtW al H al' H') : ∀ (ds : List D) {vs : List V}, RepL C K H al ds vs → RepL C K H' al' ds vs
  | [], _, h => h
  | d :: ds, _, h => by
    obtain ⟨v, r, e, h1, h2⟩ := h
    exact ⟨v, r, e, Rep.extW x d h1, RepL.extW x ds h2⟩
theorem RepT.extW (x : ExtW al H al' H') : ∀ (ds : List (List Int × D)) {vs : List (List Key × V)}, RepT C K H al ds vs → RepT C K H' al' ds vs
  | [], _, h => h
  | (k, d) :: ds, _, h => by
    obtain ⟨v, r, e, h1, h2⟩ := h
    exact ⟨v, r, e, Rep.extW x d h1, RepT.extW x ds h2⟩
theorem RepI.extW (x : ExtW al H al' H') : ∀ (ds : List (Int × D)) {vs : List (Key × V)}, RepI C K H al ds vs → RepI C K H' al' ds vs
  | [], _, h => h
  | (k, d) :: ds, _, h => by
    obtain ⟨v, r, e, h1, h2⟩ := h
    exact ⟨v, r, e, Rep.extW x d h1, RepI.extW x ds h2⟩
end
theorem Rep.ext (x : Ext0 al H al' H') (d : D) {v : V} (h : Rep C K H al d v) : Rep C K H' al' d v := Rep.extW x.toExtW d h
theorem RepL.ext (x : Ext0 al H al' H') (ds : List D) {vs : List V} (h : RepL C K H al ds vs) : RepL C K H' al' ds vs := RepL.extW x.toExtW ds h
theorem RepT.ext (x : Ext0 al H al' H') (ds : List (List Int × D)) {vs : List (List Key × V)} (h : RepT C K H al ds vs) : RepT C K H' al' ds vs := RepT.extW x.toExtW ds h
theorem RepI.ext (x : Ext0 al H al' H') (ds : List (Int × D)) {vs : List (Key × V)} (h : RepI C K H al ds vs) : RepI C K H' al' ds vs := RepI.extW x.toExtW ds h
theorem RepL.length : ∀ {ds : List D} {vs : List V}, RepL C K H al ds vs → ds.length = vs.length
  | [], _, h => by cases h; rfl
  | d :: ds, _, h => by
    obtain ⟨v, r, rfl, _, h2⟩ := h
    rw [List.length_cons, List.length_cons, h2.length]
theorem RepL.get : ∀ {ds : List D} {vs : List V} {i : Nat} {d : D}, RepL C K H al ds vs → ds[i]? = some d → ∃ v, vs[i]? = some v ∧ Rep C K H al d v
  | [], _, i, _, _, e => by simp at e
  | d :: ds, _, 0, _, h, e => by
    obtain ⟨v, r, rfl, h1, _⟩ := h
    have e' : d = _ := Option.some.inj e
    subst e'
    exact ⟨v, rfl, h1⟩
  | d :: ds, _, i + 1, _, h, e => by
    obtain ⟨v, r, rfl, _, h2⟩ := h
    exact h2.get (i := i) e
theorem RepL.append : ∀ {ds es : List D} {vs ws : List V}, RepL C K H al ds vs → RepL C K H al es ws → RepL C K H al (ds ++ es) (vs ++ ws)
  | [], _, _, _, h, h' => by cases h; exact h'
  | d :: ds, es, _, ws, h, h' => by
    obtain ⟨v, r, rfl, h1, h2⟩ := h
    exact ⟨v, r ++ ws, rfl, h1, h2.append h'⟩
theorem RepL.take : ∀ {ds : List D} {vs : List V} (n : Nat), RepL C K H al ds vs → RepL C K H al (ds.take n) (vs.take n)
  | [], _, n, h => by cases h; simp [RepL]
  | d :: ds, _, 0, h => by
    rw [List.take_zero, List.take_zero]; rfl
  | d :: ds, _, n + 1, h => by
    obtain ⟨v, r, rfl, h1, h2⟩ := h
    exact ⟨v, r.take n, rfl, h1, h2.take n⟩
theorem RepL.drop : ∀ {ds : List D} {vs : List V} (n : Nat), RepL C K H al ds vs → RepL C K H al (ds.drop n) (vs.drop n)
  | [], _, n, h => by cases h; simp [RepL]
  | d :: ds, _, 0, h => h
  | d :: ds, _, n + 1, h => by
    obtain ⟨v, r, rfl, h1, h2⟩ := h
    exact h2.drop n
theorem RepL.set : ∀ {ds : List D} {vs : List V} {d : D} {v : V} (n : Nat), RepL C K H al ds vs → Rep C K H al d v → RepL C K H al (ds.set n d) (vs.set n v)
  | [], _, _, _, n, h, _ => by cases h; simp [RepL]
  | d :: ds, _, _, _, 0, h, h' => by
    obtain ⟨v, r, rfl, h1, h2⟩ := h
    exact ⟨_, r, rfl, h', h2⟩
  | d :: ds, _, _, _, n + 1, h, h' => by
    obtain ⟨v, r, rfl, h1, h2⟩ := h
    exact ⟨v, _, rfl, h1, h2.set n h'⟩
theorem RepL.eraseIdx : ∀ {ds : List D} {vs : List V} (n : Nat), RepL C K H al ds vs → RepL C K H al (ds.eraseIdx n) (vs.eraseIdx n)
  | [], _, n, h => by cases h; simp [RepL]
  | d :: ds, _, 0, h => by
    obtain ⟨v, r, rfl, h1, h2⟩ := h
    exact h2
  | d :: ds, _, n + 1, h => by
    obtain ⟨v, r, rfl, h1, h2⟩ := h
    exact ⟨v, _, rfl, h1, h2.eraseIdx n⟩
theorem RepL.dropLast : ∀ {ds : List D} {vs : List V}, RepL C K H al ds vs → RepL C K H al ds.dropLast vs.dropLast
  | [], _, h => by cases h; rfl
  | [d], _, h => by
    obtain ⟨v, r, rfl, h1, h2⟩ := h
    cases h2; rfl
  | d :: e :: ds, _, h => by
    obtain ⟨v, r, rfl, h1, h2⟩ := h
    have := h2.dropLast
    obtain ⟨w, r', rfl, _, _⟩ := h2
    exact ⟨v, _, rfl, h1, this⟩
theorem RepL.reverse : ∀ {ds : List D} {vs : List V}, RepL C K H al ds vs → RepL C K H al ds.reverse vs.reverse
  | [], _, h => by cases h; rfl
  | d :: ds, _, h => by
    obtain ⟨v, r, rfl, h1, h2⟩ := h
    rw [List.reverse_cons, List.reverse_cons]
    exact h2.reverse.append ⟨v, [], rfl, h1, rfl⟩
theorem RepL.rep {ds : List D} {vs : List V} (h : RepL C K H al ds vs) : ∀ k : Nat, RepL C K H al (List.replicate k ds).flatten (List.replicate k vs).flatten
  | 0 => rfl
  | k + 1 => by
    rw [List.replicate_succ, List.replicate_succ, List.flatten_cons, List.flatten_cons]
    exact h.append (h.rep k)
theorem RepL.ints : ∀ (ns : List Int), RepL C K H al (ns.map .int) (ns.map V.int)
  | [] => rfl
  | n :: ns => ⟨_, _, rfl, rfl, RepL.ints ns⟩
theorem RepL.ints_of : ∀ {ns : List Int} {vs : List V}, RepL C K H al (ns.map .int) vs → vs = ns.map V.int
  | [], _, h => h
  | n :: ns, _, h => by
    obtain ⟨v, r, rfl, h1, h2⟩ := h
    rw [h2.ints_of]
    rw [show v = V.int n from h1]
    rfl
theorem RepL.cons {d : D} {ds : List D} {v : V} {vs : List V} (h : Rep C K H al d v) (r : RepL C K H al ds vs) : RepL C K H al (d :: ds) (v :: vs) := ⟨v, vs, rfl, h, r⟩
theorem RepL.map {α : Type} {f : α → D} {g : α → V} (h : ∀ a, Rep C K H al (f a) (g a)) : ∀ l : List α, RepL C K H al (l.map f) (l.map g)
  | [] => rfl
  | a :: l => ⟨_, _, rfl, h a, RepL.map h l⟩

/-- an object at its address -/
def RepO (C : CI) (K : PySem.W.Frag) (H : Hp) (al : AL) (p : Addr) : Ob → Prop
  | .lst xs => ∃ vs, H p = some (.lst vs) ∧ RepL C K H al xs vs
  | .dT kvs => ∃ ws, H p = some (.dT ws) ∧ RepT C K H al kvs ws
  | .dI kvs => ∃ ws, H p = some (.dK ws) ∧ RepI C K H al kvs ws
  | .ins _ _ => False
  | .dead => True
structure RepH (C : CI) (K : PySem.W.Frag) (H : Hp) (al : AL) (h : AH) : Prop where
  len : al.r.length = h.os.length
  inj : ∀ (i j : Nat) (p : Addr), al.r[i]? = some (some p) → al.r[j]? = some (some p) → i = j
  trk : ∀ p, At al p → H p ≠ none
  nt : ∀ p, At al p → ∀ vs, H p ≠ some (.tup vs)
  dis : ∀ p ∈ al.g, ¬ Rg al p
  ob : ∀ (n : Nat) (o : Ob), h.os[n]? = some o → o = .dead ∨ ∃ p, al.r[n]? = some (some p) ∧ RepO C K H al p o
  top : ∀ (n : Nat) (o : Ob), h.os[n]? = some o → o.top ≤ h.fl
/-- the exception that a suite handles, in a slot -/
def RepX (C : CI) (K : PySem.W.Frag) (H : Hp) (al : AL) (c : Nat) (fs : List D) (v : V) : Prop :=
  ∃ a dx vs, C.xa = some (a, c, dx) ∧ v = .ref a ∧ H dx = some (.xd ((C.fld c).zip vs)) ∧ ¬ At al dx ∧ (C.fld c).length = vs.length ∧ RepL C K H al fs vs
theorem RepX.ext {c : Nat} {fs : List D} {v : V} (x : Ext0 al H al' H') (h : RepX C K H al c fs v) : RepX C K H' al' c fs v := by
  obtain ⟨a, dx, vs, e1, e2, e3, n, l, r⟩ := h
  exact ⟨a, dx, vs, e1, e2, x.keep _ _ e3 n, x.notAt e3 n, l, RepL.ext x fs r⟩
structure RepE (C : CI) (K : PySem.W.Frag) (H : Hp) (al : AL) (env : Env) (σ : L2.St) : Prop where
  len : env.length = σ.length
  at_ : ∀ (i : Nat) (d : D), env[i]? = some (some d) → noX d = true → ∃ v, σ[i]? = some (some v) ∧ Rep C K H al d v
  ex : ∀ (i : Nat) (c : Nat) (fs : List D), env[i]? = some (some (.exc c fs)) → C.xi = some i ∧ ∃ v, σ[i]? = some (some v) ∧ RepX C K H al c fs v
theorem RepE.ext {env : Env} {σ : L2.St} (x : Ext0 al H al' H') (r : RepE C K H al env σ) : RepE C K H' al' env σ :=
  ⟨r.len, fun i d e n => let ⟨v, h1, h2⟩ := r.at_ i d e n; ⟨v, h1, Rep.ext x d h2⟩, fun i c fs e => let ⟨z, v, h1, h2⟩ := r.ex i c fs e; ⟨z, v, h1, h2.ext x⟩⟩
theorem Rep.noX {d : D} {v : V} (h : Rep C K H al d v) : noX d = true := by
  cases d <;> first | rfl | exact h.elim
theorem RepE.set {env : Env} {σ : L2.St} {d : D} {v : V} (r : RepE C K H al env σ) (i : Nat) (h : Rep C K H al d v) : RepE C K H al (env.set i (some d)) (σ.set i (some v)) := by
  refine ⟨by simp [r.len], fun j d' e nx => ?_, fun j c fs e => ?_⟩
  rotate_left
  · by_cases hj : j = i
    · subst hj
      have hl : j < env.length := by
        have := lt_of_at e
        simpa using this
      rw [List.getElem?_set_self hl] at e
      cases e
      exact (h : False).elim
    · rw [List.getElem?_set_ne (Ne.symm hj)] at e
      rw [List.getElem?_set_ne (Ne.symm hj)]
      exact r.ex j c fs e
  by_cases hj : j = i
  · subst hj
    have hl : j < env.length := by
      have := lt_of_at e
      simpa using this
    rw [List.getElem?_set_self hl] at e
    cases e
    exact ⟨v, List.getElem?_set_self (by rw [← r.len]; exact hl), h⟩
  · rw [List.getElem?_set_ne (Ne.symm hj)] at e
    rw [List.getElem?_set_ne (Ne.symm hj)]
    exact r.at_ j d' e nx
theorem RepE.unset {env : Env} {σ : L2.St} (r : RepE C K H al env σ) (i : Nat) {o : Option V} : RepE C K H al (env.set i none) (σ.set i o) := by
  refine ⟨by simp [r.len], fun j d' e nx => ?_, fun j c fs e => ?_⟩
  rotate_left
  · by_cases hj : j = i
    · subst hj
      have hl : j < env.length := by
        have := lt_of_at e
        simpa using this
      rw [List.getElem?_set_self hl] at e
      cases e
    · rw [List.getElem?_set_ne (Ne.symm hj)] at e
      rw [List.getElem?_set_ne (Ne.symm hj)]
      exact r.ex j c fs e
  by_cases hj : j = i
  · subst hj
    have hl : j < env.length := by
      have := lt_of_at e
      simpa using this
    rw [List.getElem?_set_self hl] at e
    cases e
  · rw [List.getElem?_set_ne (Ne.symm hj)] at e
    rw [List.getElem?_set_ne (Ne.symm hj)]
    exact r.at_ j d' e nx
theorem RepE.setX {env : Env} {σ : L2.St} {c : Nat} {fs : List D} {v : V} (r : RepE C K H al env σ) (i : Nat) (h : C.xi = some i) (hx : RepX C K H al c fs v) : RepE C K H al (env.set i (some (.exc c fs))) (σ.set i (some v)) := by
  refine ⟨by simp [r.len], fun j d' e nx => ?_, fun j c' fs' e => ?_⟩
  · by_cases hj : j = i
    · subst hj
      have hl : j < env.length := by
        have := lt_of_at e
        simpa using this
      rw [List.getElem?_set_self hl] at e
      cases e
      cases nx
    · rw [List.getElem?_set_ne (Ne.symm hj)] at e
      rw [List.getElem?_set_ne (Ne.symm hj)]
      exact r.at_ j d' e nx
  · by_cases hj : j = i
    · subst hj
      have hl : j < env.length := by
        have := lt_of_at e
        simpa using this
      rw [List.getElem?_set_self hl] at e
      cases e
      exact ⟨h, v, List.getElem?_set_self (by rw [← r.len]; exact hl), hx⟩
    · rw [List.getElem?_set_ne (Ne.symm hj)] at e
      rw [List.getElem?_set_ne (Ne.symm hj)]
      exact r.ex j c' fs' e
/-- the heap with a new untracked-so-far object that is not registered -/
theorem RepO.extW {p : Addr} {o : Ob} (x : ExtW al H al' H') (e : H' p = H p) (r : RepO C K H al p o) : RepO C K H' al' p o := by
  cases o with
  | lst xs => obtain ⟨vs, h1, h2⟩ := r; exact ⟨vs, e.trans h1, RepL.extW x xs h2⟩
  | dT xs => obtain ⟨vs, h1, h2⟩ := r; exact ⟨vs, e.trans h1, RepT.extW x xs h2⟩
  | dI xs => obtain ⟨vs, h1, h2⟩ := r; exact ⟨vs, e.trans h1, RepI.extW x xs h2⟩
  | ins _ _ => exact r.elim
  | dead => trivial
theorem RepO.ext {p : Addr} {o : Ob} (x : Ext0 al H al' H') (e : H' p = H p) (r : RepO C K H al p o) : RepO C K H' al' p o := RepO.extW x.toExtW e r
theorem RepH.new {h : AH} {p : Addr} {o : HO} (r : RepH C K H al h) (e : H p = none) : RepH C K (upd H p o) al h where
  len := r.len
  inj := r.inj
  dis := r.dis
  trk := fun q a z => by
    have := r.trk q a
    by_cases hq : q = p
    · rw [hq] at this; exact this e
    · rw [upd_ne hq] at z; exact this z
  nt := fun q a vs z => by
    by_cases hq : q = p
    · exact r.trk q a (hq ▸ e)
    · rw [upd_ne hq] at z; exact r.nt q a vs z
  ob := fun n ob q => by
    rcases r.ob n ob q with h1 | ⟨b, h1, h2⟩
    · exact .inl h1
    · have hb : b ≠ p := fun z => r.trk b (.inl ⟨n, h1⟩) (z ▸ e)
      exact .inr ⟨b, h1, h2.ext (Ext.new e).toExt0 (upd_ne hb)⟩
  top := r.top
/-- a registered object written -/
theorem RepH.put {h : AH} {n : Nat} {p : Addr} {o : HO} {ob ob' : Ob} {t : Nat} (r : RepH C K H al h) (a : al.r[n]? = some (some p)) (e : h.os[n]? = some ob) (new : RepO C K (upd H p o) al p ob') (ht : ob'.top ≤ max h.fl t) (no : ∀ vs, o ≠ .tup vs := by intro _ z; cases z) : RepH C K (upd H p o) al (h.put n ob' t) where
  len := by rw [r.len]; simp [AH.put]
  inj := r.inj
  dis := r.dis
  trk := fun q b z => by
    by_cases hq : q = p
    · rw [hq, upd_same] at z; cases z
    · rw [upd_ne hq] at z; exact r.trk q b z
  nt := fun q b vs z => by
    by_cases hq : q = p
    · rw [hq, upd_same] at z; exact no vs (Option.some.inj z)
    · rw [upd_ne hq] at z; exact r.nt q b vs z
  ob := fun m o' q => by
    have hn : n < h.os.length := lt_of_at e
    show o' = .dead ∨ _
    by_cases hm : m = n
    · subst hm
      rw [show (h.put m ob' t).os = h.os.set m ob' from rfl, List.getElem?_set_self hn] at q
      cases q
      exact .inr ⟨p, a, new⟩
    · rw [show (h.put n ob' t).os = h.os.set n ob' from rfl, List.getElem?_set_ne (Ne.symm hm)] at q
      rcases r.ob m o' q with h1 | ⟨b, h1, h2⟩
      · exact .inl h1
      · have hb : b ≠ p := fun z => hm (r.inj m n p (z ▸ h1) a)
        exact .inr ⟨b, h1, h2.ext (Ext.write ⟨n, a⟩).toExt0 (upd_ne hb)⟩
  top := fun m o' q => by
    have hn : n < h.os.length := lt_of_at e
    by_cases hm : m = n
    · subst hm
      rw [show (h.put m ob' t).os = h.os.set m ob' from rfl, List.getElem?_set_self hn] at q
      cases q
      exact ht
    · rw [show (h.put n ob' t).os = h.os.set n ob' from rfl, List.getElem?_set_ne (Ne.symm hm)] at q
      exact Nat.le_trans (r.top m o' q) (Nat.le_max_left _ _)
end
end Rw
end

section
set_option Elab.async false
set_option linter.all false
set_option maxRecDepth 100000
set_option maxHeartbeats 4000000
/-! RfS2: readings by the evaluator; expressions. -/
namespace Rw
open PySem PySem.Spec PyProof.Rows L2

/-- how an answer of the evaluator stands for one of the walk; the first heap is the start's -/
structure Rl (α β : Type) where
  r : Hp → AL → Hp → AH → α → β → Prop
  mono : ∀ {H H1 al' H' h a b}, (∀ p, H1 p = none → H p = none) → r H1 al' H' h a b → r H al' H' h a b
/-- what a new list or dict holds, seen without it -/
def Kid (C : CI) (K : PySem.W.Frag) (H : Hp) (al : AL) : D → HO → Prop
  | .lst xs, .lst vs => RepL C K H al xs vs
  | .dT kvs, .dT ws => RepT C K H al kvs ws
  | .dI kvs, .dK ws => RepI C K H al kvs ws
  | _, _ => False
theorem Kid.nt {C : CI} {K : PySem.W.Frag} {H : Hp} {al : AL} {d : D} {o : HO} (k : Kid C K H al d o) : ∀ vs, o ≠ .tup vs := by
  intro vs z
  subst z
  cases d <;> exact k
/-- the value is a new list or dict: nothing leans on it -/
def Fresh (C : CI) (K : PySem.W.Frag) (H : Hp) (al' : AL) (H' : Hp) (h : AH) (d : D) (v : V) : Prop :=
  ∃ q H0 o, v = .ref q ∧ H q = none ∧ H0 q = none ∧ H' = upd H0 q o ∧ RepH C K H0 al' h ∧ Kid C K H0 al' d o
def rF (C : CI) (K : PySem.W.Frag) : Rl DF V := ⟨fun H al' H' h d v => Rep C K H' al' d.1 v ∧ (d.2 = true → Fresh C K H al' H' h d.1 v), fun h q => ⟨q.1, fun e => by
  obtain ⟨q', H0, o, a, b, c⟩ := q.2 e
  exact ⟨q', H0, o, a, h _ b, c⟩⟩⟩
def rL (C : CI) (K : PySem.W.Frag) : Rl (List D) (List V) := ⟨fun _ al' H' _ d v => RepL C K H' al' d v, fun _ q => q⟩
def rQ (α : Type) : Rl α α := ⟨fun _ _ _ _ a b => a = b, fun _ q => q⟩
/-- an exception's dict -/
structure XAt (C : CI) (K : PySem.W.Frag) (H : Hp) (al : AL) (x : Xc) (dx : Addr) (vs : List V) : Prop where
  dict : H dx = some (.xd ((C.fld x.c).zip vs))
  notAt : ¬ At al dx
  len : (C.fld x.c).length = vs.length
  rep : RepL C K H al x.fs vs
theorem XAt.ext {C : CI} {K : PySem.W.Frag} {H H' : Hp} {al al' : AL} {x : Xc} {dx : Addr} {vs : List V} (a : XAt C K H al x dx vs) (e : Ext al H al' H') : XAt C K H' al' x dx vs :=
  ⟨e.keep _ _ a.dict a.notAt, e.notAt a.dict a.notAt, a.len, RepL.ext e _ a.rep⟩
def Post {α β : Type} (C : CI) (K : PySem.W.Frag) (al : AL) (H : Hp) (rl : Rl α β) (r : R α) (Q : β → Hp → Prop) (E : XK) : Prop :=
  match r with
  | .ok a h => ∀ al' H' b, Ext al H al' H' → RepH C K H' al' h → rl.r H al' H' h a b → Q b H'
  | .exc x h => ∀ al' H' dx vs, Ext al H al' H' → RepH C K H' al' h → XAt C K H' al' x dx vs → E (C.cls x.c) (some dx) H'
  | .bad => False
section
variable {C : CI} {K : PySem.W.Frag} {al al1 : AL} {H H1 : Hp}
theorem Post.start {α β : Type} {rl : Rl α β} {r : R α} {Q : β → Hp → Prop} {E : XK} (x : Ext al H al1 H1) (p : Post C K al H rl r Q E) : Post C K al1 H1 rl r Q E := by
  cases r with
  | ok a h => exact fun al' H' b e rh q => p al' H' b (x.trans e) rh (rl.mono (fun _ z => x.fresh z) q)
  | exc y h => exact fun al' H' dx vs e rh q => p al' H' dx vs (x.trans e) rh q
  | bad => exact p
theorem Post.bind {α β γ δ : Type} {rl : Rl α β} {r2 : Rl γ δ} {r : R α} {f : α → AH → R γ} {Q : δ → Hp → Prop} {E : XK} (p : Post C K al H r2 (r.bind f) Q E) :
    Post C K al H rl r (fun b H1 => ∃ al1 h1 a, r = .ok a h1 ∧ Ext al H al1 H1 ∧ RepH C K H1 al1 h1 ∧ rl.r H al1 H1 h1 a b ∧ Post C K al1 H1 r2 (f a h1) Q E) E := by
  cases r with
  | ok a h => exact fun al' H' b e rh q => ⟨al', h, a, rfl, e, rh, q, Post.start e p⟩
  | exc y h => exact p
  | bad => exact p
theorem Post.imp {α β : Type} {rl : Rl α β} {r : R α} {Q Q' : β → Hp → Prop} {E E' : XK} (p : Post C K al H rl r Q E) (h : ∀ b H1, Q b H1 → Q' b H1) (hE : ∀ c d H1, E c d H1 → E' c d H1) : Post C K al H rl r Q' E' := by
  cases r with
  | ok a _ => exact fun al' H' b e rh q => h _ _ (p al' H' b e rh q)
  | exc y _ => exact fun al' H' dx vs e rh q => hE _ _ _ (p al' H' dx vs e rh q)
  | bad => exact p
theorem Post.nox {α β : Type} {rl : Rl α β} {r : R α} {Q : β → Hp → Prop} {E E' : XK} (p : Post C K al H rl r.nox Q E) : Post C K al H rl r Q E' := by
  cases r with
  | ok a _ => exact p
  | exc y _ => exact False.elim p
  | bad => exact p
/-- the answer is immediate, nothing is new -/
theorem Post.same {d : DF} {h : AH} {v : V} {Q : VK} {E : XK} (p : Post C K al H (rF C K) (.ok d h) Q E) (rh : RepH C K H al h) (r : Rep C K H al d.1 v) (f : d.2 = false) : Q v H :=
  p al H v (Ext.refl _ _) rh ⟨r, fun z => by rw [f] at z; cases z⟩
/-- a new object -/
theorem Post.new {d : DF} {h : AH} {q : Addr} {o : HO} {Q : VK} {E : XK} (p : Post C K al H (rF C K) (.ok d h) Q E) (rh : RepH C K H al h) (n : H q = none) (r : Rep C K (upd H q o) al d.1 (.ref q)) (k : d.2 = true → Kid C K H al d.1 o) : Q (.ref q) (upd H q o) :=
  p al _ _ (Ext.new n) (rh.new n) ⟨r, fun z => ⟨q, H, o, rfl, n, n, rfl, rh, k z⟩⟩
theorem RepH.notAt {h : AH} (rh : RepH C K H al h) {q : Addr} (n : H q = none) : ¬ At al q := fun a => rh.trk q a n
theorem rep_tup {h : AH} (rh : RepH C K H al h) {q : Addr} {xs : List D} {vs : List V} (n : H q = none) (r : RepL C K H al xs vs) : Rep C K (upd H q (.tup vs)) al (.tup xs) (.ref q) :=
  ⟨q, vs, rfl, ⟨upd_same, rh.notAt n⟩, RepL.ext (Ext.new n).toExt0 xs r⟩
theorem rep_lst {h : AH} (rh : RepH C K H al h) {q : Addr} {xs : List D} {vs : List V} (n : H q = none) (r : RepL C K H al xs vs) : Rep C K (upd H q (.lst vs)) al (.lst xs) (.ref q) :=
  ⟨q, vs, rfl, ⟨upd_same, rh.notAt n⟩, RepL.ext (Ext.new n).toExt0 xs r⟩
end

/-- an evaluator's reading -/
def tG {α β : Type} (C : CI) (K : PySem.W.Frag) (rl : Rl α β) (W : WX) (m : Env → AH → R α) : L2.St → Hp → (β → Hp → Prop) → Prop := fun σ H Q =>
  ∃ al env h, RepH C K H al h ∧ RepE C K H al env σ ∧ Post C K al H rl (m env h) Q (fun c d H' => W c d σ H')
abbrev tE (C : CI) (K : PySem.W.Frag) (W : WX) (m : Env → AH → R DF) : TE := tG C K (rF C K) W m
abbrev tA (C : CI) (K : PySem.W.Frag) (W : WX) (m : Env → AH → R (List D)) : TA := tG C K (rL C K) W m
/-- as a test -/
def truR (m : Env → AH → R DF) (env : Env) (h : AH) : R Bool := (m env h).bind fun d h1 => opt h1 (tru h1 d.1)
abbrev tT (C : CI) (K : PySem.W.Frag) (W : WX) (m : Env → AH → R Bool) : TT := tG C K (rQ Bool) W m
theorem _root_.L2.PE.imp {X : Cx} {e : Expr} {t t' : TE} (h : PE X e t) (i : ∀ σ H Q, t' σ H Q → t σ H Q) : PE X e t' := ⟨fun pins s σ H Q I q => h.run pins s σ H Q I (i σ H Q q)⟩
theorem _root_.L2.PT.imp {X : Cx} {e : Expr} {t t' : TT} (h : PT X e t) (i : ∀ σ H Q, t' σ H Q → t σ H Q) : PT X e t' := ⟨fun pins s σ H Q I q => h.run pins s σ H Q I (i σ H Q q)⟩
theorem _root_.L2.PA.imp {X : Cx} {e : List Expr} {t t' : TA} (h : PA X e t) (i : ∀ σ H Q, t' σ H Q → t σ H Q) : PA X e t' := ⟨fun pos pins s σ H Q I q => h.run pos pins s σ H Q I (i σ H Q q)⟩
theorem _root_.L2.PS.imp {X : Cx} {e : Stmt} {t t' : TS} (h : PS X e t) (i : ∀ D σ H, t' D σ H → t D σ H) : PS X e t' := ⟨fun pins s σ H D I q => h.run pins s σ H D I (i D σ H q)⟩

/-- operations by values: no exception -/
def rOp1 (C : CI) (K : PySem.W.Frag) (f : DF → AH → R DF) : V → Hp → VK → Prop := fun v H Q =>
  ∃ al h x, RepH C K H al h ∧ Rep C K H al x.1 v ∧ Post C K al H (rF C K) (f x h) Q (fun _ _ _ => False)
def rOp2 (C : CI) (K : PySem.W.Frag) (f : DF → DF → AH → R DF) : R2 := fun v w H Q =>
  ∃ al h x y, RepH C K H al h ∧ Rep C K H al x.1 v ∧ Rep C K H al y.1 w ∧ Post C K al H (rF C K) (f x y h) Q (fun _ _ _ => False)
/-- no exc of its own -/
def NoX {α : Type} (r : R α) : Prop := ∀ x h, r ≠ .exc x h
theorem nox_opt {α : Type} (h : AH) (o : Option α) : NoX (opt h o) := fun x h' e => by cases o <;> cases e
section
variable {C : CI} {K : PySem.W.Frag} {W : WX} {σ : L2.St} {H : Hp}
theorem Post.dropE {α β : Type} {al : AL} {rl : Rl α β} {r : R α} {Q : β → Hp → Prop} {E E' : XK} (p : Post C K al H rl r Q E) (n : NoX r) : Post C K al H rl r Q E' := by
  cases r with
  | ok a h => exact p
  | exc x h => exact absurd rfl (n x h)
  | bad => exact p
theorem lift1 {ma : Env → AH → R DF} {f : DF → AH → R DF} (n : ∀ x h, NoX (f x h)) {Q : VK} (h : tE C K W (fun env h => (ma env h).bind fun x h1 => f x h1) σ H Q) : tUn (rOp1 C K f) (tE C K W ma) σ H Q := by
  obtain ⟨al, env, hh, rh, re, p⟩ := h
  refine ⟨al, env, hh, rh, re, (Post.bind (rl := rF C K) p).imp (fun v H1 q => ?_) fun _ _ _ q => q⟩
  obtain ⟨al1, h1, x, _, ex, rh1, rx, p1⟩ := q
  exact ⟨al1, h1, x, rh1, rx.1, p1.dropE (n x h1)⟩
theorem lift2 {ma mb : Env → AH → R DF} {f : DF → DF → AH → R DF} (n : ∀ x y h, NoX (f x y h)) {Q : VK} (h : tE C K W (fun env h => (ma env h).bind fun x h1 => (mb env h1).bind fun y h2 => f x y h2) σ H Q) : tOp (rOp2 C K f) (tE C K W ma) (tE C K W mb) σ H Q := by
  obtain ⟨al, env, hh, rh, re, p⟩ := h
  refine ⟨al, env, hh, rh, re, (Post.bind (rl := rF C K) p).imp (fun v H1 q => ?_) fun _ _ _ q => q⟩
  obtain ⟨al1, h1, x, _, ex, rh1, rx, p1⟩ := q
  refine ⟨al1, env, h1, rh1, re.ext ex, (Post.bind (rl := rF C K) p1).imp (fun w H2 q => ?_) fun _ _ _ q => q⟩
  obtain ⟨al2, h2, y, _, ex2, rh2, ry, p2⟩ := q
  exact ⟨al2, h2, x, y, rh2, Rep.ext ex2 _ rx.1, ry.1, p2.dropE (n x y h2)⟩
end

section
variable {C : CI} {X : Cx} {W : WX}
/-! ### names, constants -/
theorem se_v {i : Nat} {x : Str} {pos : Pos} (hxi : C.xi ≠ some i) (hN : X.N[i]? = some x) (hv : Vis X.env.scope x) (hd : (x == ("__debug__" : Str)) = false) (hcd : (x == ("__classdict__" : Str)) = false) :
    PE X (.Name x pos) (tE C X.K W fun env h => match env[i]? with | some (some d) => .ok (d, false) h | _ => .bad) := by
  refine (pe_var hN hv hd hcd).imp fun σ H Q h => ?_
  obtain ⟨al, env, hh, rh, re, p⟩ := h
  dsimp only at p
  split at p
  · rename_i d e
    have nx : noX d = true := by
      cases d with
      | exc c fs => exact absurd (re.ex i c fs e).1 hxi
      | _ => rfl
    obtain ⟨v, h1, h2⟩ := re.at_ i d e nx
    exact ⟨v, h1, p.same rh h2 rfl⟩
  · exact p.elim
theorem se_c {v : V} {d : D} {e : Expr} (h : PE X e (tC v)) (hr : ∀ H al, Rep C X.K H al d v) : PE X e (tE C X.K W fun _ h => .ok (d, false) h) := by
  refine h.imp fun σ H Q h => ?_
  obtain ⟨al, env, hh, rh, re, p⟩ := h
  exact p.same rh (hr H al) rfl
/-! ### argument lists, displays -/
theorem sa_nil : PA X [] (tA C X.K W fun _ h => .ok [] h) := pa_nil.imp fun σ H Q h => by
  obtain ⟨al, env, hh, rh, re, p⟩ := h
  exact p al H [] (Ext.refl _ _) rh rfl
theorem sa_cons {e : Expr} {es : List Expr} {me : Env → AH → R DF} {ms : Env → AH → R (List D)} (he : PE X e (tE C X.K W me)) (hs : PA X es (tA C X.K W ms)) (hst : starEach (e :: es) X.env = (false, eval e X.env) :: starEach es X.env) :
    PA X (e :: es) (tA C X.K W fun env h => (me env h).bind fun d h1 => (ms env h1).bind fun ds h2 => .ok (d.1 :: ds) h2) := by
  refine (pa_cons he hs hst).imp fun σ H Q h => ?_
  obtain ⟨al, env, hh, rh, re, p⟩ := h
  refine ⟨al, env, hh, rh, re, (Post.bind (rl := rF C X.K) p).imp (fun v H1 q => ?_) fun _ _ _ q => q⟩
  obtain ⟨al1, h1, d, _, ex, rh1, rd, p1⟩ := q
  refine ⟨al1, env, h1, rh1, re.ext ex, (Post.bind (rl := rL C X.K) p1).imp (fun vs H2 q => ?_) fun _ _ _ q => q⟩
  obtain ⟨al2, h2, ds, _, ex2, rh2, rds, p2⟩ := q
  exact p2 al2 H2 (v :: vs) (Ext.refl _ _) rh2 ⟨v, vs, rfl, Rep.ext ex2 _ rd.1, rds⟩
theorem ln_line {n : Nat} (h : n ≤ LN) : n ≤ sizeLine := Nat.le_trans h (by decide)
theorem se_tup {es : List Expr} {ms : Env → AH → R (List D)} {k : Nat} {pos : Pos} (hs : PA X es (tA C X.K W ms)) : PE X (.Tuple es k pos) (tE C X.K W fun env h => (ms env h).bind fun ds h1 => if ds.length ≤ LN then .ok (.tup ds, false) h1 else .bad) := by
  refine (pe_tup hs).imp fun σ H Q h => ?_
  obtain ⟨al, env, hh, rh, re, p⟩ := h
  refine ⟨al, env, hh, rh, re, (Post.bind (rl := rL C X.K) p).imp (fun vs H1 q => ?_) fun _ _ _ q => q⟩
  obtain ⟨al1, h1, ds, _, ex, rh1, rds, p1⟩ := q
  split at p1
  · rename_i hl
    have rds' : RepL C X.K H1 al1 ds vs := rds
    refine ⟨ln_line (by rw [← rds'.length]; exact hl), fun q n => ?_⟩
    exact p1.new rh1 n (rep_tup rh1 n rds) fun z => nomatch z
  · exact p1.elim
theorem se_lst {es : List Expr} {ms : Env → AH → R (List D)} {pos : Pos} (hs : PA X es (tA C X.K W ms)) : PE X (.List es pos) (tE C X.K W fun env h => (ms env h).bind fun ds h1 => if ds.length ≤ LN then .ok (.lst ds, true) h1 else .bad) := by
  refine (pe_lst hs).imp fun σ H Q h => ?_
  obtain ⟨al, env, hh, rh, re, p⟩ := h
  refine ⟨al, env, hh, rh, re, (Post.bind (rl := rL C X.K) p).imp (fun vs H1 q => ?_) fun _ _ _ q => q⟩
  obtain ⟨al1, h1, ds, _, ex, rh1, rds, p1⟩ := q
  split at p1
  · rename_i hl
    have rds' : RepL C X.K H1 al1 ds vs := rds
    refine ⟨ln_line (by rw [← rds'.length]; exact hl), fun q n => ?_⟩
    exact p1.new rh1 n (rep_lst rh1 n rds) fun _ => rds
  · exact p1.elim
end
end Rw
end

section
set_option Elab.async false
set_option linter.all false
set_option maxRecDepth 100000
set_option maxHeartbeats 4000000
/-! RfS3: operators by values. -/
namespace Rw
open PySem PySem.Spec PyProof.Rows L2
section
variable {C : CI} {K : PySem.W.Frag} {al : AL} {H : Hp} {h : AH}
/-- a list that is read -/
theorem res_lst (rh : RepH C K H al h) {d : D} {v : V} {xs : List D} (r : Rep C K H al d v) (e : res h d = .lst xs) : ∃ p vs, v = .ref p ∧ H p = some (.lst vs) ∧ RepL C K H al xs vs := by
  cases d with
  | lst ys =>
    have e' : D.lst ys = D.lst xs := e
    cases e'
    obtain ⟨p, vs, rfl, ⟨h1, _⟩, h2⟩ := r
    exact ⟨p, vs, rfl, h1, h2⟩
  | ref n =>
    unfold res at e
    dsimp only at e
    split at e
    · rename_i ys q
      cases e
      rcases rh.ob n _ q with z | ⟨p, a, vs, h1, h2⟩
      · cases z
      · exact ⟨p, vs, r.2 p a, h1, h2⟩
    · cases e
  | _ => exact absurd e (by intro z; cases z)
/-- a sequence that is read -/
theorem items_sq (rh : RepH C K H al h) {d : D} {v : V} {xs : List D} (r : Rep C K H al d v) (e : items h d = some xs) : ∃ p vs, v = .ref p ∧ (SqL K H p vs ∨ SqT K H p vs) ∧ RepL C K H al xs vs := by
  cases d with
  | lst ys =>
    have e' : some ys = some xs := e
    cases e'
    obtain ⟨p, vs, rfl, ⟨h1, _⟩, h2⟩ := r
    exact ⟨p, vs, rfl, .inl (.inl (.inl h1)), h2⟩
  | tup ys =>
    have e' : some ys = some xs := e
    cases e'
    obtain ⟨p, vs, rfl, h1, h2⟩ := r
    exact ⟨p, vs, rfl, .inr h1.sq, h2⟩
  | ktp ys =>
    have e' : some ys = some xs := e
    cases e'
    obtain ⟨p, vs, rfl, h1, h2⟩ := r
    exact ⟨p, vs, rfl, .inr (.inr h1), h2⟩
  | scr ns =>
    have e' : some (ns.map D.int) = some xs := e
    cases e'
    obtain ⟨p, rfl, h1⟩ := r
    exact ⟨p, _, rfl, .inl h1.sq, RepL.ints ns⟩
  | ref n =>
    unfold items at e
    dsimp only at e
    split at e
    · rename_i ys q
      cases e
      rcases rh.ob n _ q with z | ⟨p, a, vs, h1, h2⟩
      · cases z
      · exact ⟨p, vs, r.2 p a, .inl (.inl (.inl h1)), h2⟩
    · cases e
  | _ => exact absurd e (by intro z; cases z)
theorem strLen (s : List Nat) : (⟨s.toArray⟩ : Str).length = s.length := by
  show (s.toArray).size = s.length
  simp
theorem strCat (s t : List Nat) : (⟨s.toArray⟩ : Str) ++ ⟨t.toArray⟩ = ⟨(s ++ t).toArray⟩ := by
  show Str.mk (s.toArray ++ t.toArray) = _
  simp
theorem ln2 {a b : Nat} (h : a + b ≤ LN) : a + b ≤ sizeLine := ln_line h
end
section
variable {C : CI} {X : Cx}
/-- from what an answer is to the walk's rule -/
abbrev OkB (C : CI) (X : Cx) (op : Operator) (b : BOp) : Prop := OpR X (binaryOp op) (rOp2 C X.K fun x y h => opt h (binEv b h x.1 y.1))
theorem ob_add : OkB C X .Add .add := by
  rintro pins s σ H x y v u Q I rx ry ⟨al, h, ⟨a, fa⟩, ⟨b, fb⟩, rh, ra, rb, p⟩
  dsimp only at ra rb p
  unfold binEv at p
  dsimp only at p
  split at p
  · rename_i i j
    rw [show x = V.int i from ra] at rx
    rw [show y = V.int j from rb] at ry
    exact op_add pins s σ H _ _ v u Q I rx ry ⟨i, j, rfl, rfl, p.same rh rfl rfl⟩
  · rename_i s1 t1
    split at p
    · rename_i hl
      rw [show x = V.str _ from ra] at rx
      rw [show y = V.str _ from rb] at ry
      refine op_add_str pins s σ H _ _ v u Q I rx ry ⟨_, _, rfl, rfl, by rw [strLen, strLen]; exact ln2 hl, ?_⟩
      rw [strCat]
      exact p.same rh rfl rfl
    · exact p.elim
  · rename_i s1 t1
    split at p
    · rename_i hl
      obtain ⟨p1, vs, rfl, t1a, r1⟩ := ra
      obtain ⟨p2, ws, rfl, t2a, r2⟩ := rb
      refine op_catA pins s σ H _ _ v u Q I rx ry ⟨p1, p2, vs, ws, rfl, rfl, t1a.sq, t2a.sq, by rw [← r1.length, ← r2.length]; exact ln2 hl, fun e => ?_, fun _ e => ?_, fun _ _ q n => ?_⟩
      · subst e
        have : s1 = [] := List.length_eq_zero_iff.mp (by rw [r1.length]; rfl)
        subst this
        exact p.same rh ⟨p2, ws, rfl, t2a, by simpa using r2⟩ rfl
      · subst e
        have : t1 = [] := List.length_eq_zero_iff.mp (by rw [r2.length]; rfl)
        subst this
        exact p.same rh ⟨p1, vs, rfl, t1a, by simpa using r1⟩ rfl
      · exact p.new rh n (rep_tup rh n (r1.append r2)) fun z => nomatch z
    · exact p.elim
  · split at p
    · rename_i s1 t1 e1 e2
      split at p
      · rename_i hl
        obtain ⟨p1, vs, rfl, t1a, r1⟩ := res_lst rh ra e1
        obtain ⟨p2, ws, rfl, t2a, r2⟩ := res_lst rh rb e2
        refine op_cat pins s σ H _ _ v u Q I rx ry ⟨p1, p2, vs, ws, rfl, rfl, t1a, t2a, by rw [← r1.length, ← r2.length]; exact ln2 hl, fun q n => ?_⟩
        exact p.new rh n (rep_lst rh n (r1.append r2)) fun _ => r1.append r2
      · exact p.elim
    · exact p.elim
theorem ob_sub : OkB C X .Sub .sub := by
  rintro pins s σ H x y v u Q I rx ry ⟨al, h, ⟨a, fa⟩, ⟨b, fb⟩, rh, ra, rb, p⟩
  dsimp only at ra rb p
  unfold binEv at p
  dsimp only at p
  split at p
  · rename_i i j
    rw [show x = V.int i from ra] at rx
    rw [show y = V.int j from rb] at ry
    exact op_sub pins s σ H _ _ v u Q I rx ry ⟨i, j, rfl, rfl, p.same rh rfl rfl⟩
  · exact p.elim
theorem small_mul {i : Int} (h : small64 i = true) : -(2 ^ 64) < i ∧ i < 2 ^ 64 := by
  unfold small64 P64 at h
  rw [Bool.and_eq_true, decide_eq_true_eq, decide_eq_true_eq] at h
  exact ⟨by omega, by omega⟩
theorem ob_mul : OkB C X .Mult .mul := by
  rintro pins s σ H x y v u Q I rx ry ⟨al, h, ⟨a, fa⟩, ⟨b, fb⟩, rh, ra, rb, p⟩
  dsimp only at ra rb p
  unfold binEv at p
  dsimp only at p
  split at p
  · rename_i i j
    split at p
    · rename_i hc
      rw [show x = V.int i from ra] at rx
      rw [show y = V.int j from rb] at ry
      rw [Bool.or_eq_true, Bool.or_eq_true, decide_eq_true_eq] at hc
      rcases hc with (hc | hc) | hc
      · exact op_mul pins s σ H _ _ v u Q I rx ry ⟨i, j, rfl, rfl, .inl (small_mul hc), p.same rh rfl rfl⟩
      · exact op_mul pins s σ H _ _ v u Q I rx ry ⟨i, j, rfl, rfl, .inr (small_mul hc), p.same rh rfl rfl⟩
      · exact op_mulW pins s σ H _ _ v u Q I rx ry ⟨i, j, rfl, rfl, hc, p.same rh rfl rfl⟩
    · exact p.elim
  · rename_i s1 j
    split at p
    · rename_i hc
      obtain ⟨h0, hl, hj⟩ := hc
      rw [show y = V.int j from rb] at ry
      obtain ⟨p1, vs, rfl, ⟨t1a, _⟩, r1⟩ := ra
      refine op_rep pins s σ H _ _ v u Q I rx ry ⟨p1, j, vs, rfl, rfl, t1a, by omega, ?_, by rw [← r1.length]; exact ln_line hl, fun q n => ?_⟩
      · have : j ≤ 1000000 := hj
        omega
      · exact p.new rh n (rep_lst rh n (r1.rep _)) fun _ => r1.rep _
    · exact p.elim
  · rename_i s1 j
    split at p
    · rename_i hc
      obtain ⟨h0, hl, hj, hn⟩ := hc
      rw [show y = V.int j from rb] at ry
      obtain ⟨p1, vs, rfl, t1a, r1⟩ := ra
      refine op_repT pins s σ H _ _ v u Q I rx ry ⟨p1, j, vs, rfl, rfl, t1a.sq, ?_, h0, hj, by rw [← r1.length]; exact hl, fun q n => ?_⟩
      · rintro rfl
        have : s1 = [] := List.length_eq_zero_iff.mp (by rw [r1.length]; rfl)
        subst this
        cases hn
      · exact p.new rh n (rep_tup rh n (r1.rep _)) fun z => nomatch z
    · exact p.elim
  · exact p.elim
theorem ob_mod : OkB C X .Mod .mod := by
  rintro pins s σ H x y v u Q I rx ry ⟨al, h, ⟨a, fa⟩, ⟨b, fb⟩, rh, ra, rb, p⟩
  dsimp only at ra rb p
  unfold binEv at p
  dsimp only at p
  split at p
  · rename_i i j
    split at p
    · rename_i hc
      rw [show x = V.int i from ra] at rx
      rw [show y = V.int j from rb] at ry
      exact op_mod pins s σ H _ _ v u Q I rx ry ⟨i, j, rfl, rfl, hc, p.same rh rfl rfl⟩
    · exact p.elim
  · exact p.elim
theorem ob_fdiv : OkB C X .FloorDiv .fdiv := by
  rintro pins s σ H x y v u Q I rx ry ⟨al, h, ⟨a, fa⟩, ⟨b, fb⟩, rh, ra, rb, p⟩
  dsimp only at ra rb p
  unfold binEv at p
  dsimp only at p
  split at p
  · rename_i i j
    split at p
    · rename_i hc
      rw [show x = V.int i from ra] at rx
      rw [show y = V.int j from rb] at ry
      exact op_fdivW pins s σ H _ _ v u Q I rx ry ⟨i, j, rfl, rfl, hc, p.same rh rfl rfl⟩
    · exact p.elim
  · exact p.elim
theorem ob_pow : OkB C X .Pow .pow := by
  rintro pins s σ H x y v u Q I rx ry ⟨al, h, ⟨a, fa⟩, ⟨b, fb⟩, rh, ra, rb, p⟩
  dsimp only at ra rb p
  unfold binEv at p
  dsimp only at p
  split at p
  · rename_i i j
    split at p
    · rename_i hc
      obtain ⟨h0, h1, h2⟩ := hc
      rw [show x = V.int i from ra] at rx
      rw [show y = V.int j from rb] at ry
      have := small_mul h2
      exact op_pow pins s σ H _ _ v u Q I rx ry ⟨i, j, rfl, rfl, ⟨h0, by omega, by omega⟩, p.same rh rfl rfl⟩
    · exact p.elim
  · exact p.elim
def opOf : BOp → Operator
  | .add => .Add | .sub => .Sub | .mul => .Mult | .mod => .Mod | .fdiv => .FloorDiv | .pow => .Pow
theorem ob_all : ∀ b, OkB C X (opOf b) b
  | .add => ob_add | .sub => ob_sub | .mul => ob_mul | .mod => ob_mod | .fdiv => ob_fdiv | .pow => ob_pow
end
end Rw
end

section
set_option Elab.async false
set_option linter.all false
set_option maxRecDepth 100000
set_option maxHeartbeats 4000000
/-! RfS4: data, comparisons. -/
namespace Rw
open PySem PySem.Spec PyProof.Rows L2
mutual
def toPD : D → PyData
  | .non => .none
  | .bl b => .bool b
  | .int i => .int i
  | .str s => .str ⟨s.toArray⟩
  | .tup xs => .tuple (toPDL xs)
  | .lst xs => .list (toPDL xs)
  | _ => .none
def toPDL : List D → List PyData
  | [] => []
  | x :: xs => toPD x :: toPDL xs
end
theorem toPDL_map : ∀ xs : List D, toPDL xs = xs.map toPD
  | [] => rfl
  | x :: xs => by rw [toPDL, toPDL_map xs]; rfl
theorem plK_tup {k : Nat} {xs : List D} (h : plK k (.tup xs) = true) : ∃ j, k = j + 1 ∧ xs.all (plK j) = true := by
  cases k with
  | zero => cases h
  | succ j => exact ⟨j, rfl, h⟩
theorem plK_lst {k : Nat} {xs : List D} (h : plK k (.lst xs) = true) : ∃ j, k = j + 1 ∧ xs.all (plK j) = true := by
  cases k with
  | zero => cases h
  | succ j => exact ⟨j, rfl, h⟩
theorem all_cons {α : Type} {p : α → Bool} {x : α} {xs : List α} (h : (x :: xs).all p = true) : p x = true ∧ xs.all p = true := by
  rw [List.all_cons, Bool.and_eq_true] at h; exact h
mutual
theorem depth_pd : ∀ (d : D) (k : Nat), plK k d = true → (toPD d).depth ≤ k
  | .non, _, _ => by simp [toPD, PyData.depth]
  | .bl _, _, _ => by simp [toPD, PyData.depth]
  | .int _, _, _ => by simp [toPD, PyData.depth]
  | .str _, _, _ => by simp [toPD, PyData.depth]
  | .tup xs, k, h => by
    obtain ⟨j, rfl, h⟩ := plK_tup h
    simp only [toPD, PyData.depth]
    exact Nat.succ_le_succ (depth_pdL xs j h)
  | .lst xs, k, h => by
    obtain ⟨j, rfl, h⟩ := plK_lst h
    simp only [toPD, PyData.depth]
    exact Nat.succ_le_succ (depth_pdL xs j h)
  | .dT _, k, h => by simp [toPD, PyData.depth]
  | .dI _, k, h => by simp [toPD, PyData.depth]
  | .ref _, k, h => by simp [toPD, PyData.depth]
  | .scr _, k, h => by simp [toPD, PyData.depth]
  | .ktp _, k, h => by simp [toPD, PyData.depth]
  | .exc _ _, k, h => by simp [toPD, PyData.depth]
theorem depth_pdL : ∀ (ds : List D) (k : Nat), ds.all (plK k) = true → PyData.depthAll (toPDL ds) ≤ k
  | [], _, _ => Nat.zero_le _
  | d :: ds, k, h => by
    have := all_cons h
    simp only [toPDL, PyData.depthAll]
    exact Nat.max_le.mpr ⟨depth_pd d k this.1, depth_pdL ds k this.2⟩
end
mutual
theorem plain_pd : ∀ (d : D), (toPD d).plain = true
  | .non => rfl
  | .bl _ => rfl
  | .int _ => rfl
  | .str _ => rfl
  | .tup xs => by simp only [toPD, PyData.plain]; exact plain_pdL xs
  | .lst xs => by simp only [toPD, PyData.plain]; exact plain_pdL xs
  | .dT _ => rfl
  | .dI _ => rfl
  | .ref _ => rfl
  | .scr _ => rfl
  | .ktp _ => rfl
  | .exc _ _ => rfl
theorem plain_pdL : ∀ (ds : List D), PyData.plainAll (toPDL ds) = true
  | [] => rfl
  | d :: ds => by simp only [toPDL, PyData.plainAll, plain_pd d, plain_pdL ds, Bool.and_self]
end
theorem str_beq (x y : List Nat) : ((⟨x.toArray⟩ : Str) == ⟨y.toArray⟩) = (x == y) := by
  by_cases e : x = y
  · subst e; simp
  · have : ¬ (⟨x.toArray⟩ : Str) = ⟨y.toArray⟩ := fun z => e (by injection z with z; exact List.toArray_inj z)
    rw [beq_eq_false_iff_ne.mpr this, beq_eq_false_iff_ne.mpr e]
mutual
theorem deq_pd : ∀ (x y : D) (k m : Nat), plK k x = true → plK m y = true → deq x y = PyData.eqv (toPD x) (toPD y)
  | .non, y, k, m, h, h' => by cases y <;> first | (cases m <;> simp [plK] at h'; done) | rfl | (simp [deq, toPD, PyData.eqv]; done)
  | .bl a, y, k, m, h, h' => by cases y <;> first | rfl | simp [deq, toPD, PyData.eqv] | (cases m <;> simp [plK] at h')
  | .int a, y, k, m, h, h' => by cases y <;> first | rfl | simp [deq, toPD, PyData.eqv] | (cases m <;> simp [plK] at h')
  | .str a, y, k, m, h, h' => by cases y <;> first | rfl | (simp only [deq, toPD, PyData.eqv, str_beq]) | (cases m <;> simp [plK] at h')
  | .tup xs, y, k, m, h, h' => by
    cases y with
    | tup ys =>
      obtain ⟨j, rfl, h⟩ := plK_tup h
      obtain ⟨j', rfl, h'⟩ := plK_tup h'
      simp only [deq, toPD, PyData.eqv]
      exact deq_pdL xs ys j j' h h'
    | _ => first | rfl | simp [deq, toPD, PyData.eqv] | (cases m <;> simp [plK] at h')
  | .lst xs, y, k, m, h, h' => by
    cases y with
    | lst ys =>
      obtain ⟨j, rfl, h⟩ := plK_lst h
      obtain ⟨j', rfl, h'⟩ := plK_lst h'
      simp only [deq, toPD, PyData.eqv]
      exact deq_pdL xs ys j j' h h'
    | _ => first | rfl | simp [deq, toPD, PyData.eqv] | (cases m <;> simp [plK] at h')
  | .dT _, _, k, _, h, _ => by simp [plK] at h
  | .dI _, _, k, _, h, _ => by simp [plK] at h
  | .ref _, _, k, _, h, _ => by simp [plK] at h
  | .scr _, _, k, _, h, _ => by simp [plK] at h
  | .ktp _, _, k, _, h, _ => by simp [plK] at h
  | .exc _ _, _, k, _, h, _ => by simp [plK] at h
theorem deq_pdL : ∀ (xs ys : List D) (k m : Nat), xs.all (plK k) = true → ys.all (plK m) = true → deqL xs ys = PyData.eqvAll (toPDL xs) (toPDL ys)
  | [], [], _, _, _, _ => by simp [deqL, toPDL, PyData.eqvAll]
  | [], _ :: _, _, _, _, _ => by simp [deqL, toPDL, PyData.eqvAll]
  | _ :: _, [], _, _, _, _ => by simp [deqL, toPDL, PyData.eqvAll]
  | x :: xs, y :: ys, k, m, h, h' => by
    have a := all_cons h
    have b := all_cons h'
    simp only [deqL, toPDL, PyData.eqvAll]
    rw [deq_pd x y k m a.1 b.1, deq_pdL xs ys k m a.2 b.2]
end
mutual
theorem alike_pd : ∀ (x y : D), dalike x y = true → PySem.W.alike (toPD x) (toPD y) = true
  | .bl a, y, h => by cases y <;> first | rfl | (simp [dalike] at h)
  | .int a, y, h => by cases y <;> first | rfl | (simp [dalike] at h)
  | .str a, y, h => by cases y <;> first | rfl | (simp [dalike] at h)
  | .tup xs, y, h => by
    cases y with
    | tup ys =>
      simp only [toPD, PySem.W.alike]
      exact alike_pdL xs ys (by simpa [dalike] using h)
    | _ => simp [dalike] at h
  | .lst xs, y, h => by
    cases y with
    | lst ys =>
      simp only [toPD, PySem.W.alike]
      exact alike_pdL xs ys (by simpa [dalike] using h)
    | _ => simp [dalike] at h
  | .non, y, h => by simp [dalike] at h
  | .dT _, _, h => by simp [dalike] at h
  | .dI _, _, h => by simp [dalike] at h
  | .ref _, _, h => by simp [dalike] at h
  | .scr _, _, h => by simp [dalike] at h
  | .ktp _, _, h => by simp [dalike] at h
  | .exc _ _, _, h => by simp [dalike] at h
theorem alike_pdL : ∀ (xs ys : List D), dalikeL xs ys = true → PySem.W.alikeAll (toPDL xs) (toPDL ys) = true
  | [], [], _ => rfl
  | [], _ :: _, _ => rfl
  | _ :: _, [], _ => rfl
  | x :: xs, y :: ys, h => by
    simp only [dalikeL, Bool.and_eq_true] at h
    simp only [toPDL, PySem.W.alikeAll, alike_pd x y h.1, alike_pdL xs ys h.2, Bool.and_self]
end
theorem codesLt_eq : ∀ x y : List Nat, codesLt x y = decide (x < y)
  | [], [] => by simp [codesLt]
  | [], _ :: _ => by simp [codesLt]
  | _ :: _, [] => by simp [codesLt]
  | a :: x, b :: y => by
    simp only [codesLt]
    by_cases e : a = b
    · subst e
      simp only [beq_self_eq_true, if_true, codesLt_eq x y]
      rw [decide_eq_decide, List.cons_lt_cons_iff]
      constructor
      · exact fun z => .inr ⟨rfl, z⟩
      · rintro (z | ⟨_, z⟩)
        · exact absurd z (Nat.lt_irrefl _)
        · exact z
    · rw [if_neg (by simpa using e), decide_eq_decide, List.cons_lt_cons_iff]
      constructor
      · exact fun z => .inl z
      · rintro (z | ⟨z, _⟩)
        · exact z
        · exact absurd z e
mutual
theorem dlt_pd : ∀ (x y : D) (k m : Nat), dalike x y = true → plK k x = true → plK m y = true → dlt x y = PySem.W.dataLt (toPD x) (toPD y)
  | .bl a, y, k, m, h, _, _ => by
    cases y with
    | bl b =>
      simp only [dlt, toPD]
      rw [PySem.W.dataLt_bool]
      cases a <;> cases b <;> rfl
    | _ => simp [dalike] at h
  | .int a, y, k, m, h, _, _ => by
    cases y with
    | int b =>
      simp only [dlt, toPD]
      rw [PySem.W.dataLt_int]
    | _ => simp [dalike] at h
  | .str a, y, k, m, h, _, _ => by
    cases y with
    | str b =>
      simp only [dlt, toPD]
      rw [PySem.W.dataLt_str, codesLt_eq]
    | _ => simp [dalike] at h
  | .tup xs, y, k, m, h, h1, h2 => by
    cases y with
    | tup ys =>
      obtain ⟨j, rfl, h1⟩ := plK_tup h1
      obtain ⟨j', rfl, h2⟩ := plK_tup h2
      simp only [dlt, toPD]
      rw [PySem.W.dataLt_tuple]
      exact dlt_pdL xs ys j j' (by simpa [dalike] using h) h1 h2
    | _ => simp [dalike] at h
  | .lst xs, y, k, m, h, h1, h2 => by
    cases y with
    | lst ys =>
      obtain ⟨j, rfl, h1⟩ := plK_lst h1
      obtain ⟨j', rfl, h2⟩ := plK_lst h2
      simp only [dlt, toPD]
      rw [PySem.W.dataLt_list]
      exact dlt_pdL xs ys j j' (by simpa [dalike] using h) h1 h2
    | _ => simp [dalike] at h
  | .non, y, _, _, h, _, _ => by simp [dalike] at h
  | .dT _, _, _, _, h, _, _ => by simp [dalike] at h
  | .dI _, _, _, _, h, _, _ => by simp [dalike] at h
  | .ref _, _, _, _, h, _, _ => by simp [dalike] at h
  | .scr _, _, _, _, h, _, _ => by simp [dalike] at h
  | .ktp _, _, _, _, h, _, _ => by simp [dalike] at h
  | .exc _ _, _, _, _, h, _, _ => by simp [dalike] at h
theorem dlt_pdL : ∀ (xs ys : List D) (k m : Nat), dalikeL xs ys = true → xs.all (plK k) = true → ys.all (plK m) = true →
    dltL xs ys = PyProof.Rows.lexLt PyProof.Rows.itemOrd (PySem.W.keyToksAll (toPDL xs)) (PySem.W.keyToksAll (toPDL ys))
  | [], [], _, _, _, _, _ => by simp [dltL, toPDL]; rfl
  | [], _ :: _, _, _, _, _, _ => by simp [dltL, toPDL]; rfl
  | _ :: _, [], _, _, _, _, _ => by simp [dltL, toPDL]; rfl
  | x :: xs, y :: ys, k, m, h, h1, h2 => by
    simp only [dalikeL, Bool.and_eq_true] at h
    have a := all_cons h1
    have b := all_cons h2
    simp only [dltL, toPDL]
    rw [PySem.W.dataLt_cons (alike_pd x y h.1), deq_pd x y k m a.1 b.1, dlt_pd x y k m h.1 a.1 b.1, dlt_pdL xs ys k m h.2 a.2 b.2]
end
section
variable {C : CI} {K : PySem.W.Frag} {al : AL} {H : Hp} {h : AH}
mutual
theorem rep_dp : ∀ (d : D) (k : Nat) {v : V}, plK k d = true → Rep C K H al d v → Dp K H v (toPD d)
  | .non, _, _, _, r => by rw [show _ = V.non from r]; exact .non
  | .bl b, _, _, _, r => by rw [show _ = V.bl b from r]; exact .bl b
  | .int b, _, _, _, r => by rw [show _ = V.int b from r]; exact .int b
  | .str b, _, _, _, r => by rw [show _ = V.str _ from r]; exact .str _
  | .tup xs, k, _, h, r => by
    obtain ⟨j, rfl, h⟩ := plK_tup h
    obtain ⟨p, vs, rfl, t, r⟩ := r
    exact .tup t.sq (rep_dpL xs j h r)
  | .lst xs, k, _, h, r => by
    obtain ⟨j, rfl, h⟩ := plK_lst h
    obtain ⟨p, vs, rfl, ⟨t, _⟩, r⟩ := r
    exact .lst (.inl (.inl t)) (rep_dpL xs j h r)
  | .dT _, k, _, h, _ => by simp [plK] at h
  | .dI _, k, _, h, _ => by simp [plK] at h
  | .ref _, k, _, h, _ => by simp [plK] at h
  | .scr _, k, _, h, _ => by simp [plK] at h
  | .ktp _, k, _, h, _ => by simp [plK] at h
  | .exc _ _, k, _, h, _ => by simp [plK] at h
theorem rep_dpL : ∀ (ds : List D) (k : Nat) {vs : List V}, ds.all (plK k) = true → RepL C K H al ds vs → DpAll K H vs (toPDL ds)
  | [], _, _, _, r => by cases r; exact .nil
  | d :: ds, k, _, h, r => by
    obtain ⟨v, vs, rfl, h1, h2⟩ := r
    have := all_cons h
    exact .cons (rep_dp d k this.1 h1) (rep_dpL ds k this.2 h2)
end
theorem res_dp (rh : RepH C K H al h) {d : D} {v : V} (r : Rep C K H al d v) (p : (res h d).plain = true) : Dp K H v (toPD (res h d)) := by
  cases e : res h d with
  | lst xs =>
    rw [e] at p
    obtain ⟨q, vs, rfl, h1, h2⟩ := res_lst rh r e
    exact .lst (.inl (.inl h1)) (rep_dpL xs 11 p h2)
  | _ =>
    rw [e] at p
    have e' : d = res h d := by
      cases d with
      | ref n =>
        unfold res at e ⊢
        dsimp only at e ⊢
        split at e
        · cases e
        · rfl
      | _ => rfl
    rw [← e]
    rw [← e] at p
    rw [← e'] at p ⊢
    exact rep_dp d 12 p r
end
section
variable {C : CI} {X : Cx}
abbrev CmB (C : CI) (X : Cx) (op : CmpOp) (b : COp) : Prop := OpR X (compareOp op) (rOp2 C X.K fun x y h => opt h ((cmpEv b h x.1 y.1).map fun k => (.bl k, false)))
theorem opt_some {α : Type} {C : CI} {K : PySem.W.Frag} {al : AL} {H : Hp} {β : Type} {rl : Rl α β} {h : AH} {o : Option α} {Q : β → Hp → Prop} {E : XK} (p : Post C K al H rl (opt h o) Q E) : ∃ a, o = some a ∧ Post C K al H rl (.ok a h) Q E := by
  cases o with
  | none => exact p.elim
  | some a => exact ⟨a, rfl, p⟩
theorem room_min {A : Around} (hu : A.units + 64 < cLine) {d e : PyData} (h : d.depth ≤ 12) : A.units + min d.depth e.depth < cLine := by
  have : min d.depth e.depth ≤ d.depth := Nat.min_le_left _ _
  omega
theorem cm_eq (hu : X.A.units + 64 < cLine) : CmB C X .Eq .eq := by
  rintro pins s σ H x y v u Q I rx ry ⟨al, h, ⟨a, fa⟩, ⟨b, fb⟩, rh, ra, rb, p⟩
  dsimp only at ra rb p
  obtain ⟨d, e, p⟩ := opt_some p
  unfold cmpEv at e
  dsimp only at e
  split at e
  · rename_i hp
    rw [Bool.and_eq_true] at hp
    cases e
    obtain ⟨as, r1⟩ := Dp.reads I _ _ _ (res_dp rh ra hp.1) rx
    obtain ⟨bs, r2⟩ := Dp.reads I _ _ _ (res_dp rh rb hp.2) ry
    refine SeqAt.eq_plain r1 r2 (plain_pd _) (plain_pd _) (room_min hu (depth_pd _ 12 hp.1)) ?_
    rw [← deq_pd _ _ 12 12 hp.1 hp.2]
    exact ⟨.bl _, H, I, rfl, p.same rh rfl rfl⟩
  · cases e
theorem cm_ne (hu : X.A.units + 64 < cLine) : CmB C X .NotEq .ne := by
  rintro pins s σ H x y v u Q I rx ry ⟨al, h, ⟨a, fa⟩, ⟨b, fb⟩, rh, ra, rb, p⟩
  dsimp only at ra rb p
  obtain ⟨d, e, p⟩ := opt_some p
  unfold cmpEv at e
  dsimp only at e
  split at e
  · rename_i hp
    rw [Bool.and_eq_true] at hp
    cases e
    obtain ⟨as, r1⟩ := Dp.reads I _ _ _ (res_dp rh ra hp.1) rx
    obtain ⟨bs, r2⟩ := Dp.reads I _ _ _ (res_dp rh rb hp.2) ry
    refine SeqAt.ne_plain r1 r2 (plain_pd _) (plain_pd _) (room_min hu (depth_pd _ 12 hp.1)) ?_
    rw [← deq_pd _ _ 12 12 hp.1 hp.2]
    exact ⟨.bl _, H, I, rfl, p.same rh rfl rfl⟩
  · cases e
theorem alike_nn {x y : D} (h : dalike x y = true) : toPD x ≠ .none := by
  cases x <;> simp [dalike] at h <;> simp [toPD]
theorem dalike_comm' {x y : D} (h : dalike x y = true) : dalike y x = true ∨ True := .inr trivial
mutual
theorem dalike_comm : ∀ x y : D, dalike x y = dalike y x
  | .bl _, y => by cases y <;> simp [dalike]
  | .int _, y => by cases y <;> simp [dalike]
  | .str _, y => by cases y <;> simp [dalike]
  | .tup xs, y => by cases y <;> simp [dalike]; exact dalikeL_comm xs _
  | .lst xs, y => by cases y <;> simp [dalike]; exact dalikeL_comm xs _
  | .non, y => by cases y <;> simp [dalike]
  | .dT _, y => by cases y <;> simp [dalike]
  | .dI _, y => by cases y <;> simp [dalike]
  | .ref _, y => by cases y <;> simp [dalike]
  | .scr _, y => by cases y <;> simp [dalike]
  | .ktp _, y => by cases y <;> simp [dalike]
  | .exc _ _, y => by cases y <;> simp [dalike]
theorem dalikeL_comm : ∀ xs ys : List D, dalikeL xs ys = dalikeL ys xs
  | [], [] => rfl
  | [], _ :: _ => rfl
  | _ :: _, [] => rfl
  | x :: xs, y :: ys => by simp only [dalikeL, dalike_comm x y, dalikeL_comm xs ys]
end
/-- the four orders -/
theorem cm_ord {op : CmpOp} {b : COp} (hu : X.A.units + 64 < cLine) (fi : Int → Int → Bool) (fd : D → D → Bool)
    (ev : ∀ h x y, cmpEv b h x y = (match x, y with | .int i, .int j => some (fi i j) | _, _ => if x.plain && y.plain && dalike x y then some (fd x y) else none))
    (hi : OpR X (compareOp op) (rI0 fun i j => .bl (fi i j)))
    (hd : ∀ (s : Shared) (v u : Value) (x y : D) (as bs : List Addr) (Q : Value → Shared → Prop), Reads s.heap v (toPD x) as → Reads s.heap u (toPD y) bs → PySem.W.alike (toPD x) (toPD y) = true → toPD x ≠ .none → X.A.units + min (toPD x).depth (toPD y).depth < cLine →
      dalike x y = true → plK 12 x = true → plK 12 y = true → Q (.bool (fd x y)) s → wpAny (model X.prog X.w) X.A (compareOp op v u) Q X.xe s) : CmB C X op b := by
  rintro pins s σ H x y v u Q I rx ry ⟨al, h, ⟨a, fa⟩, ⟨c, fb⟩, rh, ra, rb, p⟩
  dsimp only at ra rb p
  obtain ⟨d, e, p⟩ := opt_some p
  rw [ev] at e
  split at e
  · rename_i i j
    cases e
    rw [show x = V.int i from ra] at rx
    rw [show y = V.int j from rb] at ry
    exact hi pins s σ H _ _ v u Q I rx ry ⟨i, j, rfl, rfl, p.same rh rfl rfl⟩
  · split at e
    · rename_i hp
      rw [Bool.and_eq_true, Bool.and_eq_true] at hp
      cases e
      obtain ⟨as, r1⟩ := Dp.reads I _ _ _ (rep_dp _ 12 hp.1.1 ra) rx
      obtain ⟨bs, r2⟩ := Dp.reads I _ _ _ (rep_dp _ 12 hp.1.2 rb) ry
      exact hd s v u _ _ as bs _ r1 r2 (alike_pd _ _ hp.2) (alike_nn hp.2) (room_min hu (depth_pd _ 12 hp.1.1)) hp.2 hp.1.1 hp.1.2 ⟨.bl _, H, I, rfl, p.same rh rfl rfl⟩
    · cases e
theorem cm_lt (hu : X.A.units + 64 < cLine) : CmB C X .Lt .lt := cm_ord hu (fun i j => decide (i < j)) dlt (fun _ _ _ => rfl) op_lt fun s v u x y as bs Q r1 r2 al nn hr ha h1 h2 q =>
  PySem.W.lt_data r1 r2 al nn hr (by rw [← dlt_pd x y 12 12 ha h1 h2]; exact q)
theorem cm_gt (hu : X.A.units + 64 < cLine) : CmB C X .Gt .gt := cm_ord hu (fun i j => decide (j < i)) (fun x y => dlt y x) (fun _ _ _ => rfl) op_gt fun s v u x y as bs Q r1 r2 al nn hr ha h1 h2 q =>
  PySem.W.gt_data r1 r2 al nn hr (by rw [← dlt_pd y x 12 12 (by rw [dalike_comm]; exact ha) h2 h1]; exact q)
theorem cm_le (hu : X.A.units + 64 < cLine) : CmB C X .LtE .le := cm_ord hu (fun i j => decide (i ≤ j)) (fun x y => !dlt y x) (fun _ _ _ => rfl) op_le fun s v u x y as bs Q r1 r2 al nn hr ha h1 h2 q =>
  PySem.W.le_data r1 r2 al nn hr (by rw [← dlt_pd y x 12 12 (by rw [dalike_comm]; exact ha) h2 h1]; exact q)
theorem cm_ge (hu : X.A.units + 64 < cLine) : CmB C X .GtE .ge := cm_ord hu (fun i j => decide (j ≤ i)) (fun x y => !dlt x y) (fun _ _ _ => rfl) op_ge fun s v u x y as bs Q r1 r2 al nn hr ha h1 h2 q =>
  PySem.W.ge_data r1 r2 al nn hr (by rw [← dlt_pd x y 12 12 ha h1 h2]; exact q)
end
end Rw
end

section
set_option Elab.async false
set_option linter.all false
set_option maxRecDepth 100000
set_option maxHeartbeats 4000000
/-! RfS5: in, is, truth, subscripts, slices. -/
namespace Rw
open PySem PySem.Spec PyProof.Rows L2
/-! ### dicts by key -/
theorem mapM_ints : ∀ {xs : List D} {k : List Int}, xs.mapM (fun | .int i => some i | _ => none) = some k → xs = k.map .int
  | [], k, h => by
    simp at h
    subst h; rfl
  | x :: xs, k, h => by
    rw [List.mapM_cons] at h
    cases x with
    | int i =>
      cases e : xs.mapM (fun | D.int i => some i | _ => none) with
      | none => rw [e] at h; simp at h
      | some r =>
        rw [e] at h
        simp at h
        subst h
        rw [mapM_ints e]
        rfl
    | _ => simp at h
theorem keyT_of {d : D} {k : List Int} (h : keyT d = some k) : d = .tup (k.map .int) := by
  cases d with
  | tup xs => rw [mapM_ints (show xs.mapM _ = some k from h)]
  | _ => cases h
theorem keyI_of {d : D} {k : Int} (h : keyI d = some k) : d = .int k := by
  cases d with
  | int i => cases h; rfl
  | _ => cases h
theorem keyL_inj : ∀ {a b : List Int}, keyL a = keyL b → a = b
  | [], [], _ => rfl
  | [], _ :: _, h => by cases h
  | _ :: _, [], h => by cases h
  | x :: a, y :: b, h => by
    have h' : Sum.inl x :: keyL a = Sum.inl y :: keyL b := h
    injection h' with h1 h2
    injection h1 with h1
    rw [h1, keyL_inj h2]
theorem keyL_kV (k : List Int) : (keyL k).map kV = k.map V.int := by
  unfold keyL
  rw [List.map_map]
  rfl
section
variable {C : CI} {K : PySem.W.Frag} {al : AL} {H : Hp} {h : AH}
theorem repT_val : ∀ {kvs : List (List Int × D)} {ws : List (List Key × V)} (k : List Int), RepT C K H al kvs ws → (∃ d v, lookT k kvs = some d ∧ valV ws (keyL k) = some v ∧ Rep C K H al d v) ∨ (lookT k kvs = none ∧ valV ws (keyL k) = none)
  | [], _, k, r => by cases r; exact .inr ⟨rfl, rfl⟩
  | (j, d) :: kvs, _, k, r => by
    obtain ⟨v, ws, rfl, h1, h2⟩ := r
    by_cases e : j = k
    · subst e
      refine .inl ⟨d, v, ?_, valV_pos rfl, h1⟩
      simp [lookT]
    · rw [valV_neg (p := (keyL j, v)) (fun z => e (keyL_inj z))]
      have : lookT k ((j, d) :: kvs) = lookT k kvs := by simp [lookT, e]
      rw [this]
      exact repT_val k h2
theorem repI_val : ∀ {kvs : List (Int × D)} {ws : List (Key × V)} (k : Int), RepI C K H al kvs ws → (∃ d v, lookI k kvs = some d ∧ valV ws (Sum.inl k) = some v ∧ Rep C K H al d v) ∨ (lookI k kvs = none ∧ valV ws (Sum.inl k) = none)
  | [], _, k, r => by cases r; exact .inr ⟨rfl, rfl⟩
  | (j, d) :: kvs, _, k, r => by
    obtain ⟨v, ws, rfl, h1, h2⟩ := r
    by_cases e : j = k
    · subst e
      refine .inl ⟨d, v, ?_, valV_pos rfl, h1⟩
      simp [lookI]
    · rw [valV_neg (p := (Sum.inl j, v)) (fun z => e (Sum.inl.inj z))]
      have : lookI k ((j, d) :: kvs) = lookI k kvs := by simp [lookI, e]
      rw [this]
      exact repI_val k h2
/-- what stands for a dict -/
theorem dT_at (rh : RepH C K H al h) {n : Nat} {kvs : List (List Int × D)} {v : V} (r : Rep C K H al (.ref n) v) (e : h.os[n]? = some (.dT kvs)) : ∃ p ws, v = .ref p ∧ H p = some (.dT ws) ∧ RepT C K H al kvs ws ∧ al.r[n]? = some (some p) := by
  rcases rh.ob n _ e with z | ⟨p, a, ws, h1, h2⟩
  · cases z
  · exact ⟨p, ws, r.2 p a, h1, h2, a⟩
theorem dI_at (rh : RepH C K H al h) {n : Nat} {kvs : List (Int × D)} {v : V} (r : Rep C K H al (.ref n) v) (e : h.os[n]? = some (.dI kvs)) : ∃ p ws, v = .ref p ∧ H p = some (.dK ws) ∧ RepI C K H al kvs ws ∧ al.r[n]? = some (some p) := by
  rcases rh.ob n _ e with z | ⟨p, a, ws, h1, h2⟩
  · cases z
  · exact ⟨p, ws, r.2 p a, h1, h2, a⟩
theorem lst_at (rh : RepH C K H al h) {n : Nat} {xs : List D} {v : V} (r : Rep C K H al (.ref n) v) (e : h.os[n]? = some (.lst xs)) : ∃ p ws, v = .ref p ∧ H p = some (.lst ws) ∧ RepL C K H al xs ws ∧ al.r[n]? = some (some p) := by
  rcases rh.ob n _ e with z | ⟨p, a, ws, h1, h2⟩
  · cases z
  · exact ⟨p, ws, r.2 p a, h1, h2, a⟩
theorem keyT_rep {d : D} {k : List Int} {v : V} (e : keyT d = some k) (r : Rep C K H al d v) : ∃ b, v = .ref b ∧ H b = some (.tup ((keyL k).map kV)) := by
  rw [keyT_of e] at r
  obtain ⟨b, vs, rfl, t, r⟩ := r
  rw [RepL.ints_of r] at t
  exact ⟨b, rfl, by rw [keyL_kV]; exact t.1⟩
/-- dict look-ups, however the dict stands -/
theorem dget_T {p : Addr} {ws : List (List Key × V)} {kvs : List (List Int × D)} {d : D} {k : List Int} {y : V} (hp : H p = some (.dT ws)) (r : RepT C K H al kvs ws) (e : keyT d = some k) (ry : Rep C K H al d y) :
    ∃ o, DGet H p y o ∧ (o.isSome = (lookT k kvs).isSome) ∧ (∀ z, lookT k kvs = some z → ∃ v, o = some v ∧ Rep C K H al z v) ∧ (lookT k kvs = none → o = none) := by
  obtain ⟨b, rfl, hb⟩ := keyT_rep e ry
  refine ⟨_, DGet.t hp hb, ?_⟩
  rcases repT_val k r with ⟨z, v, e1, e2, e3⟩ | ⟨e1, e2⟩
  · rw [e1, e2]
    exact ⟨rfl, fun z' q => (by cases q; exact ⟨v, rfl, e3⟩), fun q => (by cases q)⟩
  · rw [e1, e2]
    exact ⟨rfl, fun z' q => (by cases q), fun _ => rfl⟩
theorem dget_I {p : Addr} {ws : List (Key × V)} {kvs : List (Int × D)} {d : D} {k : Int} {y : V} (hp : H p = some (.dK ws)) (r : RepI C K H al kvs ws) (e : keyI d = some k) (ry : Rep C K H al d y) :
    ∃ o, DGet H p y o ∧ (o.isSome = (lookI k kvs).isSome) ∧ (∀ z, lookI k kvs = some z → ∃ v, o = some v ∧ Rep C K H al z v) ∧ (lookI k kvs = none → o = none) := by
  rw [keyI_of e] at ry
  rw [show y = V.int k from ry]
  refine ⟨_, DGet.k (k := Sum.inl k) hp, ?_⟩
  rcases repI_val k r with ⟨z, v, e1, e2, e3⟩ | ⟨e1, e2⟩
  · rw [e1, e2]
    exact ⟨rfl, fun z' q => (by cases q; exact ⟨v, rfl, e3⟩), fun q => (by cases q)⟩
  · rw [e1, e2]
    exact ⟨rfl, fun z' q => (by cases q), fun _ => rfl⟩
end
theorem dd_get {C : CI} {K : PySem.W.Frag} {al : AL} {H : Hp} {h : AH} (rh : RepH C K H al h) {a x : D} {v y : V} {dd : DD} {o : Option D} (ra : Rep C K H al a v) (rx : Rep C K H al x y) (e : ddOf h a = some dd) (l : ddLook x dd = some o) :
    ∃ p q, v = .ref p ∧ DGet H p y q ∧ q.isSome = o.isSome ∧ (∀ z, o = some z → ∃ v, q = some v ∧ Rep C K H al z v) ∧ (o = none → q = none) := by
  cases a with
  | dT kvs =>
    cases e
    obtain ⟨p, ws, rfl, ⟨hp, _⟩, r⟩ := ra
    cases ek : keyT x with
    | none => simp [ddLook, ek] at l
    | some k =>
      simp [ddLook, ek] at l
      subst l
      obtain ⟨q, g1, g2, g3, g4⟩ := dget_T hp r ek rx
      exact ⟨p, q, rfl, g1, g2, g3, g4⟩
  | dI kvs =>
    cases e
    obtain ⟨p, ws, rfl, ⟨hp, _⟩, r⟩ := ra
    cases ek : keyI x with
    | none => simp [ddLook, ek] at l
    | some k =>
      simp [ddLook, ek] at l
      subst l
      obtain ⟨q, g1, g2, g3, g4⟩ := dget_I hp r ek rx
      exact ⟨p, q, rfl, g1, g2, g3, g4⟩
  | ref n =>
    unfold ddOf at e
    dsimp only at e
    split at e
    · rename_i kvs eo
      cases e
      obtain ⟨p, ws, rfl, hp, r, _⟩ := dT_at rh ra eo
      cases ek : keyT x with
      | none => simp [ddLook, ek] at l
      | some k =>
        simp [ddLook, ek] at l
        subst l
        obtain ⟨q, g1, g2, g3, g4⟩ := dget_T hp r ek rx
        exact ⟨p, q, rfl, g1, g2, g3, g4⟩
    · rename_i kvs eo
      cases e
      obtain ⟨p, ws, rfl, hp, r, _⟩ := dI_at rh ra eo
      cases ek : keyI x with
      | none => simp [ddLook, ek] at l
      | some k =>
        simp [ddLook, ek] at l
        subst l
        obtain ⟨q, g1, g2, g3, g4⟩ := dget_I hp r ek rx
        exact ⟨p, q, rfl, g1, g2, g3, g4⟩
    · cases e
  | _ => cases e
/-- in, by cases -/
theorem inEv_cases {h : AH} {x y : D} {b : Bool} (e : inEv h x y = some b) :
    (∃ c t, x = .str [c] ∧ y = .str t ∧ b = t.contains c) ∨ (∃ dd o, ddOf h y = some dd ∧ ddLook x dd = some o ∧ b = o.isSome) ∨
    (∃ xs, items h y = some xs ∧ (∀ ns, y ≠ .scr ns) ∧ x.plain = true ∧ plainL xs = true ∧ b = xs.any fun z => deq z x) := by
  unfold inEv at e
  split at e
  · split at e
    · cases e; exact .inl ⟨_, _, rfl, rfl, rfl⟩
    · cases e
  · rename_i kvs
    cases ek : keyT x with
    | none => rw [ek] at e; cases e
    | some k => rw [ek] at e; cases e; exact .inr (.inl ⟨.t kvs, lookT k kvs, rfl, by simp [ddLook, ek], rfl⟩)
  · rename_i kvs
    cases ek : keyI x with
    | none => rw [ek] at e; cases e
    | some k => rw [ek] at e; cases e; exact .inr (.inl ⟨.i kvs, lookI k kvs, rfl, by simp [ddLook, ek], rfl⟩)
  · split at e
    · rename_i n xs eo
      split at e
      · rename_i hp
        rw [Bool.and_eq_true] at hp
        cases e
        exact .inr (.inr ⟨xs, by unfold items; simp only [eo], (fun _ z => by cases z), hp.1, hp.2, rfl⟩)
      · cases e
    · rename_i n kvs eo
      cases ek : keyT x with
      | none => rw [ek] at e; cases e
      | some k => rw [ek] at e; cases e; exact .inr (.inl ⟨.t kvs, lookT k kvs, by unfold ddOf; simp only [eo], by simp [ddLook, ek], rfl⟩)
    · rename_i n kvs eo
      cases ek : keyI x with
      | none => rw [ek] at e; cases e
      | some k => rw [ek] at e; cases e; exact .inr (.inl ⟨.i kvs, lookI k kvs, by unfold ddOf; simp only [eo], by simp [ddLook, ek], rfl⟩)
    · cases e
  · rename_i xs
    split at e
    · rename_i hp
      rw [Bool.and_eq_true] at hp
      cases e
      exact .inr (.inr ⟨xs, rfl, (fun _ z => by cases z), hp.1, hp.2, rfl⟩)
    · cases e
  · rename_i xs
    split at e
    · rename_i hp
      rw [Bool.and_eq_true] at hp
      cases e
      exact .inr (.inr ⟨xs, rfl, (fun _ z => by cases z), hp.1, hp.2, rfl⟩)
    · cases e
  · rename_i xs
    split at e
    · rename_i hp
      rw [Bool.and_eq_true] at hp
      cases e
      exact .inr (.inr ⟨xs, rfl, (fun _ z => by cases z), hp.1, hp.2, rfl⟩)
    · cases e
  · cases e
theorem any_pd {x : D} (hx : x.plain = true) : ∀ {xs : List D}, xs.all (plK 11) = true → (toPDL xs).any (fun z => PyData.eqv z (toPD x)) = xs.any fun z => deq z x
  | [], _ => rfl
  | z :: xs, h => by
    have a := all_cons h
    rw [toPDL, List.any_cons, List.any_cons, any_pd hx a.2, deq_pd z x 11 12 a.1 hx]
section
variable {C : CI} {X : Cx}
theorem room_in1 {A : Around} (hu : A.units + 64 < cLine) {n m : Nat} (h : n ≤ 11) : A.units + 1 + min n m < cLine := by
  have : min n m ≤ n := Nat.min_le_left _ _
  omega
/-- x in y, by values; neg: not in -/
theorem in_any (hu : X.A.units + 64 < cLine) {pins : List (Addr × Obj)} {s : Shared} {σ : L2.St} {H : Hp} {v w : V} {u1 u2 : Value} {Q : Bool → Prop} {al : AL} {h : AH} {x y : D} {b : Bool} (I : Inv X pins σ H s) (r1 : RelV v u1) (r2 : RelV w u2)
    (rh : RepH C X.K H al h) (rx : Rep C X.K H al x v) (ry : Rep C X.K H al y w) (e : inEv h x y = some b) {QQ : Value → Shared → Prop} {E : Value → Shared → Prop} (hQ : ∀ s', Inv X pins σ H s' → QQ (.bool b) s') :
    wpAny (model X.prog X.w) X.A (compareOp .In u1 u2) QQ E s ∧ (∀ {QN : Value → Shared → Prop}, (∀ s', Inv X pins σ H s' → QN (.bool !b) s') → (∀ c, y ≠ .str c) → wpAny (model X.prog X.w) X.A (compareOp .NotIn u1 u2) QN E s) := by
  rcases inEv_cases e with ⟨c, t, rfl, rfl, rfl⟩ | ⟨dd, o, e1, e2, rfl⟩ | ⟨xs, e1, e3, hx, hp, rfl⟩
  · refine ⟨?_, fun _ n => absurd rfl (n t)⟩
    rw [show v = V.str _ from rx] at r1
    rw [show w = V.str _ from ry] at r2
    have := op_in_sign (X := X.wish E) pins s σ H _ _ u1 u2 (fun z H' => z = .bl (t.contains c) ∧ H' = H) (I.wish E) r1 r2 ⟨c, _, rfl, rfl, by
      refine ⟨?_, rfl⟩
      show V.bl (decide (c ∈ t.toArray.toList)) = _
      rw [List.contains_eq_mem]⟩
    refine wpAny_mono this (fun z s' q => ?_) fun _ _ q => q
    obtain ⟨v', H', I', rv, rfl, rfl⟩ := q
    rw [show z = Value.bool _ from rv]
    exact hQ s' I'.unwish
  · obtain ⟨p, q, rfl, g, gi, _, _⟩ := dd_get rh ry rx e1 e2
    obtain rfl : u2 = Value.ref p := r2
    refine ⟨d_in (by omega) I g r1 fun s' I' => ?_, fun hN _ => d_notIn (by omega) I g r1 fun s' I' => ?_⟩
    · rw [gi]; exact hQ s' I'
    · rw [gi]; exact hN s' I'
  · obtain ⟨p, vs, rfl, sq, r⟩ := items_sq rh ry e1
    obtain ⟨as, r1'⟩ := Dp.reads I _ _ _ (rep_dp _ 12 hx rx) r1
    have hd := depth_pdL xs 11 hp
    rcases sq with sq | sq
    · obtain ⟨bs, r2'⟩ := Dp.reads I _ _ _ (Dp.lst sq (rep_dpL xs 11 hp r)) r2
      refine ⟨SeqAt.in_list_data r2' r1' (plain_pdL xs) (plain_pd _) (room_in1 hu hd) ?_, fun hN _ => SeqAt.notIn_list_data r2' r1' (plain_pdL xs) (plain_pd _) (room_in1 hu hd) ?_⟩
      · rw [any_pd hx hp]; exact hQ s I
      · rw [any_pd hx hp]; exact hN s I
    · obtain ⟨bs, r2'⟩ := Dp.reads I _ _ _ (Dp.tup sq (rep_dpL xs 11 hp r)) r2
      refine ⟨SeqAt.in_tuple_data r2' r1' (plain_pdL xs) (plain_pd _) (room_in1 hu hd) ?_, fun hN _ => SeqAt.notIn_tuple_data r2' r1' (plain_pdL xs) (plain_pd _) (room_in1 hu hd) ?_⟩
      · rw [any_pd hx hp]; exact hQ s I
      · rw [any_pd hx hp]; exact hN s I
theorem cm_in (hu : X.A.units + 64 < cLine) : CmB C X .In .in_ := by
  rintro pins s σ H x y v u Q I rx ry ⟨al, h, ⟨a, fa⟩, ⟨b, fb⟩, rh, ra, rb, p⟩
  dsimp only at ra rb p
  obtain ⟨d, e, p⟩ := opt_some p
  cases q : inEv h a b with
  | none => rw [show cmpEv .in_ h a b = inEv h a b from rfl, q] at e; cases e
  | some k =>
    rw [show cmpEv .in_ h a b = inEv h a b from rfl, q] at e
    cases e
    exact (in_any hu (Q := fun _ => True) I rx ry rh ra rb q fun s' I' => ⟨.bl _, H, I', rfl, p.same rh rfl rfl⟩).1
theorem cm_nin (hu : X.A.units + 64 < cLine) : CmB C X .NotIn .nin := by
  rintro pins s σ H x y v u Q I rx ry ⟨al, h, ⟨a, fa⟩, ⟨b, fb⟩, rh, ra, rb, p⟩
  dsimp only at ra rb p
  obtain ⟨d, e, p⟩ := opt_some p
  unfold cmpEv at e
  dsimp only at e
  split at e
  · cases e
  · rename_i hn
    cases q : inEv h a b with
    | none => rw [q] at e; cases e
    | some k =>
      rw [q] at e
      cases e
      exact (in_any hu (Q := fun _ => True) (QQ := fun _ _ => True) (E := X.xe) I rx ry rh ra rb q fun s' I' => trivial).2 (fun s' I' => ⟨.bl _, H, I', rfl, p.same rh rfl rfl⟩) fun c z => hn c z
/-! ### is -/
theorem isNon_of {K : PySem.W.Frag} {H : Hp} {al : AL} {h : AH} {d : D} {v : V} {b : Bool} (rh : RepH C K H al h) (r : Rep C K H al d v) (e : isNon h d = some b) : b = decide (v = .non) := by
  cases d with
  | non => cases e; rw [show v = V.non from r]; rfl
  | bl x => cases e; rw [show v = V.bl x from r]; rfl
  | int x => cases e; rw [show v = V.int x from r]; rfl
  | str x => cases e; rw [show v = V.str _ from r]; rfl
  | tup x => cases e; obtain ⟨p, vs, rfl, _⟩ := r; rfl
  | lst x => cases e; obtain ⟨p, vs, rfl, _⟩ := r; rfl
  | dT x => cases e; obtain ⟨p, vs, rfl, _⟩ := r; rfl
  | dI x => cases e; obtain ⟨p, vs, rfl, _⟩ := r; rfl
  | scr x => cases e; obtain ⟨p, rfl, _⟩ := r; rfl
  | ktp x => cases e; obtain ⟨p, vs, rfl, _⟩ := r; rfl
  | exc _ _ => cases e
  | ref n =>
    unfold isNon at e
    dsimp only at e
    split at e
    · rename_i eo
      cases e
      obtain ⟨p, ws, rfl, _⟩ := lst_at rh r eo
      rfl
    · rename_i eo
      cases e
      obtain ⟨p, ws, rfl, _⟩ := dT_at rh r eo
      rfl
    · rename_i eo
      cases e
      obtain ⟨p, ws, rfl, _⟩ := dI_at rh r eo
      rfl
    · cases e
theorem cm_is : CmB C X .Is .is_ := by
  rintro pins s σ H x y v u Q I rx ry ⟨al, h, ⟨a, fa⟩, ⟨b, fb⟩, rh, ra, rb, p⟩
  dsimp only at ra rb p
  obtain ⟨d, e, p⟩ := opt_some p
  unfold cmpEv at e
  dsimp only at e
  split at e
  · cases q : isNon h a with
    | none => rw [q] at e; cases e
    | some k =>
      rw [q] at e
      cases e
      rw [isNon_of rh ra q] at p
      exact op_isN pins s σ H _ _ v u Q I rx ry ⟨rb, p.same rh rfl rfl⟩
  · rename_i k
    cases a with
    | bl j =>
      cases e
      rw [show x = V.bl j from ra] at rx
      rw [show y = V.bl k from rb] at ry
      refine op_is_bl pins s σ H _ _ v u Q I rx ry ⟨j, k, rfl, rfl, ?_⟩
      rw [show decide (j = k) = (j == k) by cases j <;> cases k <;> rfl]
      exact p.same rh rfl rfl
    | _ => cases e
  · cases e
theorem cm_isn : CmB C X .IsNot .isn := by
  rintro pins s σ H x y v u Q I rx ry ⟨al, h, ⟨a, fa⟩, ⟨b, fb⟩, rh, ra, rb, p⟩
  dsimp only at ra rb p
  obtain ⟨d, e, p⟩ := opt_some p
  unfold cmpEv at e
  dsimp only at e
  split at e
  · cases q : isNon h a with
    | none => rw [q] at e; cases e
    | some k =>
      rw [q] at e
      cases e
      rw [isNon_of rh ra q] at p
      exact op_notN pins s σ H _ _ v u Q I rx ry ⟨rb, p.same rh rfl rfl⟩
  · rename_i k
    cases a with
    | bl j =>
      cases e
      rw [show x = V.bl j from ra] at rx
      rw [show y = V.bl k from rb] at ry
      refine op_isnot_bl pins s σ H _ _ v u Q I rx ry ⟨j, k, rfl, rfl, ?_⟩
      rw [show decide (j = k) = (j == k) by cases j <;> cases k <;> rfl]
      exact p.same rh rfl rfl
    | _ => cases e
  · cases e
def cmOf : COp → CmpOp
  | .eq => .Eq | .ne => .NotEq | .lt => .Lt | .le => .LtE | .gt => .Gt | .ge => .GtE | .in_ => .In | .nin => .NotIn | .is_ => .Is | .isn => .IsNot
theorem cm_all (hu : X.A.units + 64 < cLine) : ∀ b, CmB C X (cmOf b) b
  | .eq => cm_eq hu | .ne => cm_ne hu | .lt => cm_lt hu | .le => cm_le hu | .gt => cm_gt hu | .ge => cm_ge hu | .in_ => cm_in hu | .nin => cm_nin hu | .is_ => cm_is | .isn => cm_isn
/-! ### truth -/
theorem tru_of {H : Hp} {al : AL} {h : AH} {d : D} {v : V} {b : Bool} (rh : RepH C X.K H al h) (r : Rep C X.K H al d v) (e : tru h d = some b) : TruV X.K v H b := by
  cases d with
  | non => cases e; rw [show v = V.non from r]; rfl
  | bl x => cases e; rw [show v = V.bl _ from r]; rfl
  | int x => cases e; rw [show v = V.int x from r]; rfl
  | str x =>
    unfold tru at e
    dsimp only at e
    split at e
    · rename_i hl
      cases e
      rw [show v = V.str _ from r]
      refine ⟨by rw [strLen]; exact ln_line hl, ?_⟩
      rw [strLen]
      cases x with
      | nil => rfl
      | cons a b => rfl
    · cases e
  | tup x =>
    cases e
    obtain ⟨p, vs, rfl, t, r⟩ := r
    refine .inr (.inl ⟨vs, t.sq, ?_⟩)
    cases x <;> cases vs <;> first | rfl | (have := r.length; simp at this)
  | lst x =>
    cases e
    obtain ⟨p, vs, rfl, ⟨t, _⟩, r⟩ := r
    refine .inl ⟨vs, .inl (.inl t), ?_⟩
    cases x <;> cases vs <;> first | rfl | (have := r.length; simp at this)
  | dI x =>
    cases e
    obtain ⟨p, vs, rfl, ⟨t, _⟩, r⟩ := r
    refine .inr (.inr ⟨vs, t, ?_⟩)
    cases x with
    | nil => cases r; rfl
    | cons q x => obtain ⟨v, r', rfl, _⟩ := r; rfl
  | scr x =>
    cases e
    obtain ⟨p, rfl, t⟩ := r
    refine .inl ⟨_, t.sq, ?_⟩
    cases x <;> rfl
  | dT _ => cases e
  | ktp _ => cases e
  | exc _ _ => cases e
  | ref n =>
    unfold tru at e
    dsimp only at e
    split at e
    · rename_i xs eo
      cases e
      obtain ⟨p, ws, rfl, t, r, _⟩ := lst_at rh r eo
      refine .inl ⟨ws, .inl (.inl t), ?_⟩
      cases xs <;> cases ws <;> first | rfl | (have := r.length; simp at this)
    · rename_i xs eo
      cases e
      obtain ⟨p, ws, rfl, t, r, _⟩ := dI_at rh r eo
      refine .inr (.inr ⟨ws, t, ?_⟩)
      cases xs with
      | nil => cases r; rfl
      | cons q x => obtain ⟨v, r', rfl, _⟩ := r; rfl
    · cases e
end
end Rw
end

section
set_option Elab.async false
set_option linter.all false
set_option maxRecDepth 100000
set_option maxHeartbeats 4000000
/-! RfSort: sorted of any list or tuple of alike data, empty tuples among them. -/
namespace Rw
open PySem PySem.Calls PySem.W PySem.SeqAt PyProof.Rows
section
variable {prog : Program} {w : World} {A : Around} {E : Value → Shared → Prop} {s : Shared}
theorem call_tuple_lt {Q : Value → Shared → Prop} {l b : Addr} {items items2 : Array Value} {e r : Nat → Bool} (hl : s.heap.IsTuple l items) (hb : s.heap.IsTuple b items2)
    (he : ∀ j (h1 : j < items.size) (h2 : j < items2.size), EqAt A.in1 s items[j] items2[j] (e j)) (hr : ∀ j (h1 : j < items.size) (h2 : j < items2.size), e j = false → RcLt A.in1 s items[j] items2[j] (r j))
    (h : Q (.bool (firstLt e r (decide (items.size < items2.size)) (List.range (min items.size items2.size)))) s) : wpAny (model prog w) A (call (.builtin "tuple.__lt__") [.ref l, .ref b]) Q E s := by
  obtain ⟨⟨cls, dd, data, sl⟩, ho, hc, n, hd⟩ := id hl
  obtain ⟨⟨cls2, dd2, data2, sl2⟩, ho2, hc2, n2, hd2⟩ := id hb
  simp only at hc hd hc2 hd2
  subst hc hd hc2 hd2
  exact call_meets F.slot_tuple_lt ⟨_, ho, rfl⟩ F.entry_tuple_lt (F.args_tuple_lt_2 _ _) (tuple_ltAt l b items items2 n n2 dd dd2 sl sl2 e r) ⟨ho, ho2, he, hr, h⟩
theorem oneLt_tup {f : Bool} {xs ys : List PyData} {a b : Value} {as bs : List Addr} {Q : Bool → Shared → Prop} (ra : Reads s.heap a (.tuple xs) as) (rb : Reads s.heap b (.tuple ys) bs) (h : alike (.tuple xs) (.tuple ys) = true)
    (hu : A.units + min (PyData.tuple xs).depth (PyData.tuple ys).depth < cLine) (hq : Q (dataLt (.tuple xs) (.tuple ys)) s) : wpAny (model prog w) A (oneLt' f a b) Q E s := by
  cases f with
  | false =>
    rw [oneLt'_eq]
    simp only [Bool.false_eq_true, if_false]
    exact wpAny_bind (rcLt_alike _ _ A s a b as bs ra rb h (by simp) hu prog w E _ (wpAny_truthy_bool hq))
  | true =>
    have hal : alikeAll xs ys = true := by simpa [alike] using h
    cases ra with
    | @tuple l o vs n _ as₁ h1 h2 h3 h4 =>
      cases rb with
      | @tuple l' o' vs' n' _ bs₁ k1 k2 k3 k4 =>
        have n1 : vs.size = xs.length := by simpa using ReadsAll.length _ _ _ h4
        have n2 : vs'.size = ys.length := by simpa using ReadsAll.length _ _ _ k4
        rw [dataLt_tuple, ← firstLt_toks xs ys hal, ← n1, ← n2] at hq
        rw [oneLt'_eq]
        simp only [if_true]
        refine wpAny_bind (wpAny_cRoomFor (room_here hu) ?_)
        refine wpAny_bind (wpAny_callSpecialIfBound?_slot (T := "tuple") ⟨_, h1, h2⟩ F.slot_tuple_lt (call_tuple_lt (e := pairEq xs ys) (r := fun j => dataLt (xs.getD j .none) (ys.getD j .none)) ⟨_, h1, h2, _, h3⟩ ⟨_, k1, k2, _, k3⟩ (fun j j1 j2 => ?_) (fun j j1 j2 hj => ?_) ?_))
        · have := eqAt_alikeAll xs ys A.in1 s vs.toList vs'.toList _ _ h4 k4 hal (room_in hu) j (by simpa using j1) (by simpa using j2)
          simpa using this
        · have := rcLt_alikeAll xs ys A.in1 s vs.toList vs'.toList _ _ h4 k4 hal (room_in hu) j (by simpa using j1) (by simpa using j2) hj
          simpa using this
        · exact wpAny_truthy_bool hq
theorem keyLt_gen (x y : Value) : keyLt' general' x y = oneLt' false x y := rfl
/-- the first items of tuples, where some may be empty -/
theorem firsts_any {M : Model} : ∀ (vs : List Value) (ds : List PyData) {Q : List (Option Value) → Shared → Prop}, EachIs (fun v d => ∃ as, Reads s.heap v d as) vs ds → (∀ d ∈ ds, ∃ xs, d = .tuple xs) →
    (∀ fs : List (Option Value), fs.length = vs.length → (∀ (i : Nat) (f : Option Value), fs[i]? = some f → (f = none ↔ ds[i]? = some (.tuple []))) → Q fs s) → wpAny M A (vs.mapM firstOfTuple') Q E s
  | [], _, _, _, _, h => by
    rw [List.mapM_nil]
    exact wpAny_pure (h [] rfl fun i f e => by simp at e)
  | v :: vs, _, Q, e, ht, h => by
    cases e with
    | @cons _ d _ ds r t =>
      obtain ⟨as, r⟩ := r
      obtain ⟨xs, rfl⟩ := ht d (List.mem_cons_self ..)
      cases r with
      | @tuple a o ws n _ _ ho hc hd hr =>
        rw [List.mapM_cons]
        refine wpAny_bind ?_
        rw [kas_first_eq]
        refine wpAny_bind (Looks.here (show Looks M s.heap (typeOf (.ref a)) o.cls from (Looks.ld ho).andThen .now) ?_)
        rw [hc, if_neg (by first | decide | simp)]
        refine wpAny_bind (listItems_at ho hd (wpAny_pure ?_))
        refine wpAny_bind (firsts_any vs ds (Q := fun bs s' => wpAny M A (pure (ws[0]? :: bs)) Q E s') t (fun d hd => ht d (List.mem_cons_of_mem _ hd)) fun fs hl hf => wpAny_pure (h _ (by simp [hl]) fun i f q => ?_))
        have hl2 : ws.size = xs.length := by simpa using ReadsAll.length _ _ _ hr
        cases i with
        | zero =>
          have q' : ws[0]? = f := Option.some.inj q
          subst q'
          rw [Array.getElem?_eq_none_iff]
          show ws.size ≤ 0 ↔ some (PyData.tuple xs) = some (.tuple [])
          rw [hl2]
          constructor
          · intro z
            have : xs = [] := List.length_eq_zero_iff.mp (Nat.le_zero.mp z)
            rw [this]
          · intro z
            injection z with z
            injection z with z
            rw [z]; exact Nat.le_refl _
        | succ i => exact hf i f q
theorem SortsAt.data0 {vs : List Value} {ds : List PyData} (e : EachIs (fun v d => ∃ as, Reads s.heap v d as) vs ds) (hal : AllAlike ds) (ht : ∀ d ∈ ds, ∃ xs, d = .tuple xs) (hu : ∀ d, d ∈ ds → A.units + d.depth < cLine) : SortsAt prog w A s (dataKind s.heap ds) vs := by
  by_cases hne : ∀ d, d ∈ ds → ∃ x r, d = .tuple (x :: r)
  · exact SortsAt.data e hal (.inl hne) hu
  have room : ∀ {d d' : PyData}, d ∈ ds → A.units + min d.depth d'.depth < cLine := fun {d d'} hd => Nat.lt_of_le_of_lt (Nat.add_le_add_left (Nat.min_le_left _ _) _) (hu d hd)
  have lt : ∀ (f : Bool) (E : Value → Shared → Prop) (x y : Value) (a b : (dataKind s.heap ds).α) {Q : Bool → Shared → Prop}, (dataKind s.heap ds).keyOf x = some a → (dataKind s.heap ds).keyOf y = some b → Q ((dataKind s.heap ds).blt a b) s → wpAny (model prog w) A (oneLt' f x y) Q E s := by
    intro f E x y a b Q ha hb hq
    obtain ⟨d, as, hd, ra, rfl⟩ := dataKind_inv ha
    obtain ⟨d', as', hd', rb, rfl⟩ := dataKind_inv hb
    obtain ⟨xs, rfl⟩ := ht d hd
    obtain ⟨ys, rfl⟩ := ht d' hd'
    exact oneLt_tup ra rb (hal _ hd _ hd') (room hd) hq
  have kinds : ∀ v ∈ vs, ∀ M, Looks M s.heap (typeOf v) (Value.type "tuple") := fun v hv M => by
    obtain ⟨d, hd, as, r⟩ := e.left v hv
    obtain ⟨xs, rfl⟩ := ht d hd
    exact looks_reads r
  refine ⟨fun v hv => ?_, ?_⟩
  · obtain ⟨d, hd, as, r⟩ := e.left v hv
    exact ⟨_, dataKind_some hal hd r⟩
  · have hemp : PyData.tuple [] ∈ ds := by
      apply Classical.byContradiction
      intro q
      refine hne fun d hd => ?_
      obtain ⟨xs, rfl⟩ := ht d hd
      cases xs with
      | nil => exact absurd hd q
      | cons x r => exact ⟨x, r, rfl⟩
    have run : ∀ kd : SortKind, ((ds[0]? = some (.tuple []) ∧ kd = oneType') ∨ (ds[0]? ≠ some (.tuple []) ∧ kd = general')) → (2 ≤ vs.length → ∀ (E : Value → Shared → Prop) {Q : SortKind → Shared → Prop}, Q kd s → wpAny (model prog w) A (keyKind' vs.toArray) Q E s) := by
      intro kd hkd h2 E Q hq
      have hlen := e.length
      obtain ⟨k, hk⟩ := List.mem_iff_getElem?.mp hemp
      rw [keyKind'_eq, List.mapM_toArray, map_eq_pure_bind]
      refine wpAny_bind (wpAny_bind (firsts_any vs ds e ht fun fs hl hf => wpAny_pure ?_))
      have hk' : k < fs.length := by
        have := (List.getElem?_eq_some_iff.mp hk).1
        omega
      have hnone : fs[k]? = some none := by
        rw [List.getElem?_eq_getElem hk']
        congr 1
        exact (hf k _ (List.getElem?_eq_getElem hk')).mpr hk
      have hall : (fs.toArray.all fun x => x.isSome) = false := by
        rw [List.all_toArray]
        apply Bool.eq_false_iff.mpr
        intro z
        have := (List.all_eq_true.mp z) none (List.mem_of_getElem? hnone)
        cases this
      rw [hall, if_neg (by simp)]
      have h0 : 0 < fs.length := by omega
      have hf0 : fs.toArray[0]? = some fs[0] := by rw [List.getElem?_toArray, List.getElem?_eq_getElem h0]
      rw [hf0]
      have hi := hf 0 fs[0] (List.getElem?_eq_getElem h0)
      by_cases hz : ds[0]? = some (.tuple [])
      · have hkd : kd = oneType' := by
          rcases hkd with ⟨_, q⟩ | ⟨q, _⟩
          · exact q
          · exact absurd hz q
        subst hkd
        have hn : fs[0] = none := hi.mpr hz
        rw [if_neg (by simp [hn])]
        obtain ⟨v₁, v₂, rest, rfl⟩ : ∃ v₁ v₂ rest, vs = v₁ :: v₂ :: rest := by
          match vs, h2 with
          | [], h2 => simp at h2
          | [_], h2 => simp at h2
          | v₁ :: v₂ :: rest, _ => exact ⟨v₁, v₂, rest, rfl⟩
        rw [oneTypeOnly'_eq, List.mapM_toArray, map_eq_pure_bind]
        refine wpAny_bind (wpAny_bind (wpAny_bind (kas_mapM (r := Value.type "tuple") _ (fun v hv Q' hq => (kinds v hv _).here hq) (wpAny_pure ?_))))
        have hall : ((List.map (fun _ => Value.type "tuple") (v₁ :: v₂ :: rest)).toArray.all fun x => x == Value.type "tuple") = true := by
          simp only [List.all_toArray, List.all_map, List.all_eq_true]
          intro _ _
          exact beq_self_eq_true _
        have h0 : (List.map (fun _ => Value.type "tuple") (v₁ :: v₂ :: rest)).toArray[0]? = some (Value.type "tuple") := by simp
        rw [h0]
        simp only [hall, if_true]
        exact wpAny_pure (wpAny_pure hq)
      · have hkd : kd = general' := by
          rcases hkd with ⟨q, _⟩ | ⟨_, q⟩
          · exact absurd q hz
          · exact q
        subst hkd
        have hs : fs[0] ≠ none := fun z => hz (hi.mp z)
        rw [if_pos (by
          cases q : fs[0] with
          | none => exact absurd q hs
          | some x => rfl)]
        exact wpAny_pure hq
    by_cases hz : ds[0]? = some (.tuple [])
    · exact ⟨oneType', fun E x y a b Q ha hb hq => by rw [keyLt'_oneType]; exact lt true E x y a b ha hb hq, run _ (.inl ⟨hz, rfl⟩)⟩
    · exact ⟨general', fun E x y a b Q ha hb hq => by rw [keyLt_gen]; exact lt false E x y a b ha hb hq, run _ (.inr ⟨hz, rfl⟩)⟩
/-- list(x) of a list or a tuple, with its place -/
theorem collect_sq {Q : List Value → Shared → Prop} (it : Addr) {T : String} {o : Obj} {items : Array Value} {n : Nat} (hT : T = "list" ∨ T = "tuple")
    (ho : s.heap.get? it = some o) (hc : o.cls = .type T) (hd : o.data = .seq items n)
    (hQ : Q items.toList { s with heap := (s.heap.push { cls := .type "list", data := .seq ([] : List Value).toArray }).update s.heap.objs.size (Obj.mapSeq (· ++ items)) }) (hsz : items.size ≤ sizeLine) :
    wpAny (model prog w) A (collect (.ref it)) Q E s := by
  unfold collect
  refine wpAny_bind (wpAny_runValue (codeAny_builtin F.entry_proto_collect ?_))
  rw [Around.under_plainId F.plain_proto_collect _]
  show wpAny _ A.in1 (newList [] >>= fun l => again (.builtin "list.__iadd__" ⟨[l, .ref it], []⟩)) _ _ s
  refine wpAny_bind (wpAny_newObj_type ?_)
  refine wpAny_pure ⟨plainId_quiet F.plain_list_iadd _, codeAny_builtin F.entry_list_iadd ?_⟩
  rw [Around.under_plainId F.plain_list_iadd _]
  show wpAny _ A.in1 (Builtin.List.listExtendWith (.ref s.heap.objs.size) (.ref it) (.ref s.heap.objs.size)) _ _ _
  have hS : (s.heap.push { cls := .type "list", data := .seq ([] : List Value).toArray }).get? s.heap.objs.size = some { cls := .type "list", data := .seq #[] 0 } := Heap.get?_push_size _ rfl
  have hS₂ := Heap.get?_update_self (Obj.mapSeq (· ++ items)) hS rfl
  have fin' : wpAny (model prog w) A (match Value.ref s.heap.objs.size with
      | Value.ref a => do
        match (← load a).data with
          | Data.seq xs _ => pure xs.toList
          | _ => unsupported "internal:collect"
      | _ => unsupported "internal:collect") Q E { s with heap := (s.heap.push { cls := .type "list", data := .seq ([] : List Value).toArray }).update s.heap.objs.size (Obj.mapSeq (· ++ items)) } := by
    show wpAny _ A (load s.heap.objs.size >>= _) _ _ _
    refine wpAny_bind (wpAny_load hS₂ ?_)
    refine wpAny_pure ?_
    have e : ((#[] : Array Value) ++ items).toList = items.toList := by simp
    show Q ((#[] : Array Value) ++ items).toList _
    rw [e]
    exact hQ
  refine wpAny_mono (wpAny_extend_seq (hsz := hsz) (A := A) (R := fun r s' => r = .ok (.ret (.ref s.heap.objs.size)) ∧ s' = { s with heap := (s.heap.push { cls := .type "list", data := .seq ([] : List Value).toArray }).update s.heap.objs.size (Obj.mapSeq (· ++ items)) })
    (s := { s with heap := s.heap.push { cls := .type "list", data := .seq ([] : List Value).toArray } }) _ it _ 0 hT hS (Heap.get?_push_of_some _ ho) hc hd ⟨rfl, rfl⟩) (fun fin s' h => ?_) (fun e s' h => ?_)
  · cases fin with
    | done f =>
      obtain ⟨e, rfl⟩ := h
      cases e
      exact fin'
    | again c' => exact ⟨h.1, codeAny_mono h.2 fun r s'' hr => by obtain ⟨rfl, rfl⟩ := hr; exact fin'⟩
  · exact absurd h.1 (by simp)
/-- sorted(x) of a list or a tuple -/
theorem sorted_seq {it : Addr} {T : String} {o : Obj} {vs : List Value} {n : Nat} {κ : PyProof.Rows.KeyKind} {Q : Value → Shared → Prop} (hT : T = "list" ∨ T = "tuple") (ho : s.heap.get? it = some o) (hc : o.cls = .type T) (hd : o.data = .seq vs.toArray n) (hL : vs.length ≤ sizeLine)
    (S : SortsAt prog w A.in1.in1 { s with heap := sortingHeap (copyHeap s.heap vs) (s.heap.objs.size + 1) vs } κ vs)
    (h : Q (.ref (s.heap.objs.size + 1)) { s with heap := sortedAll s.heap vs (sortVals κ false vs vs).toArray }) :
    wpAny (model prog w) A (call (.builtin "sorted") [.ref it] []) Q E s := by
  refine call_function_entry_kw kind_sorted plain_sorted entry_sorted (args_sorted1 _) ?_
  unfold Builtin.«sorted»
  refine wpAny_bind (m := checkCount "sorted" 1 1 _) (wpAny_pure ?_)
  refine wpAny_bind (collect_sq it hT ho hc hd ?_ (by simpa using hL))
  rw [List.toList_toArray]
  refine wpAny_bind (wpAny_newList ?_ hL)
  have hsz : ((s.heap.push (seqObj "list" #[] 0)).update s.heap.objs.size (Obj.mapSeq (· ++ vs.toArray))).objs.size = s.heap.objs.size + 1 := by
    rw [Heap.size_update, size_push']
  show wpAny _ _ _ _ _ { s with heap := copyHeap s.heap vs }
  rw [hsz]
  refine wpAny_bind (wpAny_holding (wpAny_call_entry_kw slot_list_sort ⟨_, copyHeap_at s.heap vs, rfl⟩ entry_list_sort ?body (args_list_sort _)))
  case body =>
    show wpAny (model prog w) A.in1.in1 (Builtin.«list.sort» ⟨[.ref (s.heap.objs.size + 1)], []⟩) _ _ _
    refine wpAny_mono (list_sort_vals (κ := κ) (s := { s with heap := copyHeap s.heap vs }) (P := fun f s' => f = .done (.ret .none) ∧ Q (.ref (s.heap.objs.size + 1)) s') (copyHeap_at s.heap vs) S hL ⟨rfl, h⟩) (fun f s' hf => ?_) fun _ _ e => e
    obtain ⟨rfl, hq⟩ := hf
    exact ⟨_, rfl, wpAny_pure ⟨_, rfl, hq⟩⟩
end
end Rw
end

section
set_option Elab.async false
set_option linter.all false
set_option maxRecDepth 100000
set_option maxHeartbeats 4000000
/-! RfS6: built-ins by values. -/
namespace Rw
open PySem PySem.Spec PyProof.Rows L2
/-! ### the sort is the model's -/
section
variable {α : Type} (le : α → α → Bool)
def gins (x : α) : List α → List α
  | [] => [x]
  | y :: ys => if le x y then x :: y :: ys else y :: gins x ys
def gsort (xs : List α) : List α := xs.foldr (gins le) []
variable {le}
theorem gins_mem {x z : α} : ∀ {ys : List α}, z ∈ gins le x ys → z = x ∨ z ∈ ys
  | [], h => by simpa [gins] using h
  | y :: ys, h => by
    unfold gins at h
    split at h
    · rcases List.mem_cons.mp h with h | h
      · exact .inl h
      · exact .inr h
    · rcases List.mem_cons.mp h with h | h
      · exact .inr (h ▸ List.mem_cons_self ..)
      · rcases gins_mem h with h | h
        · exact .inl h
        · exact .inr (List.mem_cons_of_mem _ h)
theorem gins_pw (T : PySem.W.TotalLe le) {x : α} : ∀ {ys : List α}, ys.Pairwise (fun a b => le a b = true) → (gins le x ys).Pairwise (fun a b => le a b = true)
  | [], _ => List.pairwise_singleton _ _
  | y :: ys, h => by
    obtain ⟨h1, h2⟩ := List.pairwise_cons.mp h
    unfold gins
    split
    · rename_i hle
      refine List.pairwise_cons.mpr ⟨fun z hz => ?_, h⟩
      rcases List.mem_cons.mp hz with rfl | hz
      · exact hle
      · exact T.trans _ _ _ hle (h1 z hz)
    · rename_i hle
      refine List.pairwise_cons.mpr ⟨fun z hz => ?_, gins_pw T h2⟩
      rcases gins_mem hz with rfl | hz
      · rcases T.total z y with q | q
        · exact absurd q hle
        · exact q
      · exact h1 z hz
theorem gins_filter (T : PySem.W.TotalLe le) {x c : α} : ∀ {ys : List α}, (gins le x ys).filter (PySem.W.sameRank le c) = (x :: ys).filter (PySem.W.sameRank le c)
  | [] => rfl
  | y :: ys => by
    unfold gins
    split
    · rfl
    · rename_i hle
      rw [List.filter_cons, gins_filter T, List.filter_cons, List.filter_cons, List.filter_cons]
      by_cases hx : PySem.W.sameRank le c x = true
      · by_cases hy : PySem.W.sameRank le c y = true
        · exfalso
          unfold PySem.W.sameRank at hx hy
          rw [Bool.and_eq_true] at hx hy
          exact hle (T.trans _ _ _ hx.2 hy.1)
        · simp [hx, hy]
      · simp [hx]
theorem gsort_eq (T : PySem.W.TotalLe le) : ∀ l : List α, gsort le l = l.mergeSort le := fun l => by
  refine PySem.W.sort_unique T ?_ ?_
  · induction l with
    | nil => exact List.Pairwise.nil
    | cons x l ih => exact gins_pw T ih
  · intro c
    induction l with
    | nil => rfl
    | cons x l ih =>
      show (gins le x (gsort le l)).filter _ = _
      rw [gins_filter T, List.filter_cons, List.filter_cons, ih]
end
def Ty.dep : Ty → Nat
  | .int | .str => 0
  | .seq t => t.dep + 1
  | .two s t => max s.dep t.dep + 1
  | .three s t u => max s.dep (max t.dep u.dep) + 1
theorem two_has {s t : Ty} {x : D} (h : (Ty.two s t).has x = true) : ∃ a b, x = .tup [a, b] ∧ s.has a = true ∧ t.has b = true := by
  cases x with
  | tup xs =>
    match xs, h with
    | [a, b], h =>
      rw [show (Ty.two s t).has (.tup [a, b]) = (s.has a && t.has b) from rfl, Bool.and_eq_true] at h
      exact ⟨a, b, rfl, h.1, h.2⟩
    | [], h => cases h
    | [_], h => cases h
    | _ :: _ :: _ :: _, h => cases h
  | _ => cases h
theorem three_has {s t u : Ty} {x : D} (h : (Ty.three s t u).has x = true) : ∃ a b c, x = .tup [a, b, c] ∧ s.has a = true ∧ t.has b = true ∧ u.has c = true := by
  cases x with
  | tup xs =>
    match xs, h with
    | [a, b, c], h =>
      rw [show (Ty.three s t u).has (.tup [a, b, c]) = (s.has a && t.has b && u.has c) from rfl, Bool.and_eq_true, Bool.and_eq_true] at h
      exact ⟨a, b, c, rfl, h.1.1, h.1.2, h.2⟩
    | [], h => cases h
    | [_], h => cases h
    | [_, _], h => cases h
    | _ :: _ :: _ :: _ :: _, h => cases h
  | _ => cases h
theorem has_pl : ∀ (t : Ty) (x : D) (k : Nat), t.has x = true → t.dep ≤ k → plK k x = true
  | .int, x, k, h, _ => by cases x <;> first | (cases k <;> rfl) | cases h
  | .str, x, k, h, _ => by cases x <;> first | (cases k <;> rfl) | cases h
  | .seq t, x, k, h, hk => by
    cases x with
    | tup xs =>
      cases k with
      | zero => exact absurd hk (Nat.not_succ_le_zero _)
      | succ k =>
        show xs.all (plK k) = true
        rw [List.all_eq_true]
        intro y hy
        exact has_pl t y k (List.all_eq_true.mp (show xs.all t.has = true from h) y hy) (Nat.le_of_succ_le_succ hk)
    | _ => cases h
  | .two s t, x, k, h, hk => by
    obtain ⟨a, b, rfl, h1, h2⟩ := two_has h
    cases k with
    | zero => exact absurd hk (Nat.not_succ_le_zero _)
    | succ k =>
      have hk := Nat.le_of_succ_le_succ hk
      show [a, b].all (plK k) = true
      simp [has_pl s a k h1 (Nat.le_trans (Nat.le_max_left _ _) hk), has_pl t b k h2 (Nat.le_trans (Nat.le_max_right _ _) hk)]
  | .three s t u, x, k, h, hk => by
    obtain ⟨a, b, c, rfl, h1, h2, h3⟩ := three_has h
    cases k with
    | zero => exact absurd hk (Nat.not_succ_le_zero _)
    | succ k =>
      have hk := Nat.le_of_succ_le_succ hk
      have e1 : s.dep ≤ k := Nat.le_trans (Nat.le_max_left _ _) hk
      have e2 : t.dep ≤ k := Nat.le_trans (Nat.le_max_left _ _) (Nat.le_trans (Nat.le_max_right _ _) hk)
      have e3 : u.dep ≤ k := Nat.le_trans (Nat.le_max_right _ _) (Nat.le_trans (Nat.le_max_right _ _) hk)
      show [a, b, c].all (plK k) = true
      simp [has_pl s a k h1 e1, has_pl t b k h2 e2, has_pl u c k h3 e3]
theorem alikeL_of {p : D → D → Prop} : ∀ {xs ys : List D}, (∀ x ∈ xs, ∀ y ∈ ys, dalike x y = true) → dalikeL xs ys = true
  | [], [], _ => rfl
  | [], _ :: _, _ => rfl
  | _ :: _, [], _ => rfl
  | x :: xs, y :: ys, h => by
    simp only [dalikeL, Bool.and_eq_true]
    exact ⟨h x (List.mem_cons_self ..) y (List.mem_cons_self ..), alikeL_of (p := p) fun a ha b hb => h a (List.mem_cons_of_mem _ ha) b (List.mem_cons_of_mem _ hb)⟩
theorem int_has {x : D} (h : Ty.int.has x = true) : ∃ i, x = .int i := by
  cases x with
  | int i => exact ⟨i, rfl⟩
  | _ => exact absurd h (by simp [Ty.has])
theorem str_has {x : D} (h : Ty.str.has x = true) : ∃ i, x = .str i := by
  cases x with
  | str i => exact ⟨i, rfl⟩
  | _ => exact absurd h (by simp [Ty.has])
theorem seq_has {t : Ty} {x : D} (h : (Ty.seq t).has x = true) : ∃ xs, x = .tup xs ∧ xs.all t.has = true := by
  cases x with
  | tup i => exact ⟨i, rfl, by simpa [Ty.has] using h⟩
  | _ => exact absurd h (by simp [Ty.has])
theorem has_alike : ∀ (t : Ty) (x y : D), t.has x = true → t.has y = true → dalike x y = true
  | .int, x, y, h, h' => by
    obtain ⟨i, rfl⟩ := int_has h
    obtain ⟨j, rfl⟩ := int_has h'
    rfl
  | .str, x, y, h, h' => by
    obtain ⟨i, rfl⟩ := str_has h
    obtain ⟨j, rfl⟩ := str_has h'
    rfl
  | .seq t, x, y, h, h' => by
    obtain ⟨xs, rfl, h⟩ := seq_has h
    obtain ⟨ys, rfl, h'⟩ := seq_has h'
    simp only [dalike]
    exact alikeL_of (p := fun _ _ => True) fun a ha b hb => has_alike t a b (List.all_eq_true.mp h a ha) (List.all_eq_true.mp h' b hb)
  | .two s t, x, y, h, h' => by
    obtain ⟨a, b, rfl, h1, h2⟩ := two_has h
    obtain ⟨a', b', rfl, h1', h2'⟩ := two_has h'
    simp [dalike, dalikeL, has_alike s a a' h1 h1', has_alike t b b' h2 h2']
  | .three s t u, x, y, h, h' => by
    obtain ⟨a, b, c, rfl, h1, h2, h3⟩ := three_has h
    obtain ⟨a', b', c', rfl, h1', h2', h3'⟩ := three_has h'
    simp [dalike, dalikeL, has_alike s a a' h1 h1', has_alike t b b' h2 h2', has_alike u c c' h3 h3']
theorem sortable_ty {xs : List D} (h : sortable xs = true) : ∃ t ∈ tys, ∀ x ∈ xs, t.has x = true := by
  obtain ⟨t, ht, h⟩ := List.any_eq_true.mp h
  exact ⟨t, ht, fun x hx => List.all_eq_true.mp h x hx⟩
theorem tys_dep : ∀ t ∈ tys, t.dep ≤ 4 := by decide
/-- what a sort or a least one needs -/
theorem sortable_all {xs : List D} (h : sortable xs = true) : (∀ x ∈ xs, ∀ y ∈ xs, dalike x y = true) ∧ (∀ x ∈ xs, plK 4 x = true) ∧ ((∀ x ∈ xs, ∃ ys, x = .tup ys) ∨ ∀ x ∈ xs, (∃ i, x = .int i) ∨ ∃ s, x = .str s) := by
  obtain ⟨t, ht, hx⟩ := sortable_ty h
  refine ⟨fun x a y b => has_alike t x y (hx x a) (hx y b), fun x a => has_pl t x 4 (hx x a) (tys_dep t ht), ?_⟩
  have key : ∀ x, t.has x = true → (match t with | .int => ∃ i, x = D.int i | .str => ∃ s, x = D.str s | _ => ∃ ys, x = D.tup ys) := by
    intro x h
    cases t with
    | int => exact int_has h
    | str => exact str_has h
    | seq t =>
      obtain ⟨xs, e, _⟩ := seq_has h
      exact ⟨xs, e⟩
    | two s t => obtain ⟨a, b, rfl, _⟩ := two_has h; exact ⟨_, rfl⟩
    | three s t u => obtain ⟨a, b, c, rfl, _⟩ := three_has h; exact ⟨_, rfl⟩
  cases t with
  | int => exact .inr fun x a => .inl (key x (hx x a))
  | str => exact .inr fun x a => .inr (key x (hx x a))
  | seq t => exact .inl fun x a => key x (hx x a)
  | two s t => exact .inl fun x a => key x (hx x a)
  | three s t u => exact .inl fun x a => key x (hx x a)
theorem plK_mono : ∀ (x : D) {k m : Nat}, k ≤ m → plK k x = true → plK m x = true := fun x k m h hp => by
  induction k generalizing x m with
  | zero => cases x <;> first | (cases m <;> rfl) | cases hp
  | succ k ih =>
    cases m with
    | zero => exact absurd h (Nat.not_succ_le_zero _)
    | succ m =>
      cases x with
      | tup xs => exact List.all_eq_true.mpr fun y hy => ih y m (Nat.le_of_succ_le_succ h) (List.all_eq_true.mp (show xs.all (plK k) = true from hp) y hy)
      | lst xs => exact List.all_eq_true.mpr fun y hy => ih y m (Nat.le_of_succ_le_succ h) (List.all_eq_true.mp (show xs.all (plK k) = true from hp) y hy)
      | _ => first | rfl | cases hp
/-- the sort by dlt is that by data -/
theorem dins_eq {xs : List D} {x : D} (h1 : ∀ y ∈ xs, dalike x y = true) (h2 : plK 4 x = true) (h3 : ∀ y ∈ xs, plK 4 y = true) : dins x xs = gins (PySem.W.dataLe false toPD) x xs := by
  induction xs with
  | nil => rfl
  | cons y ys ih =>
    have e : dlt y x = !(PySem.W.dataLe false toPD x y) := by
      rw [dlt_pd y x 4 4 (by rw [dalike_comm]; exact h1 y (List.mem_cons_self ..)) (h3 y (List.mem_cons_self ..)) h2, PySem.W.dataLe_eq]
      simp
    unfold dins gins
    rw [e, ih (fun z hz => h1 z (List.mem_cons_of_mem _ hz)) fun z hz => h3 z (List.mem_cons_of_mem _ hz)]
    cases PySem.W.dataLe false toPD x y <;> simp
theorem dins_mem {x z : D} : ∀ {ys : List D}, z ∈ dins x ys → z = x ∨ z ∈ ys
  | [], h => by simpa [dins] using h
  | y :: ys, h => by
    unfold dins at h
    split at h
    · rcases List.mem_cons.mp h with h | h
      · exact .inr (h ▸ List.mem_cons_self ..)
      · rcases dins_mem h with h | h
        · exact .inl h
        · exact .inr (List.mem_cons_of_mem _ h)
    · rcases List.mem_cons.mp h with h | h
      · exact .inl h
      · exact .inr h
theorem dsort_mem {z : D} : ∀ {xs : List D}, z ∈ dsort xs → z ∈ xs
  | [], h => by cases h
  | x :: xs, h => by
    rcases dins_mem (show z ∈ dins x (dsort xs) from h) with h | h
    · exact h ▸ List.mem_cons_self ..
    · exact List.mem_cons_of_mem _ (dsort_mem h)
theorem dsort_eq {xs : List D} (h1 : ∀ x ∈ xs, ∀ y ∈ xs, dalike x y = true) (h3 : ∀ y ∈ xs, plK 4 y = true) : dsort xs = xs.mergeSort (PySem.W.dataLe false toPD) := by
  rw [← gsort_eq (le := PySem.W.dataLe false toPD) (PySem.W.sortLe_total _ _ _)]
  induction xs with
  | nil => rfl
  | cons x xs ih =>
    show dins x (dsort xs) = gins _ x (gsort _ xs)
    rw [dins_eq (fun y hy => h1 x (List.mem_cons_self ..) y (List.mem_cons_of_mem _ (dsort_mem hy))) (h3 x (List.mem_cons_self ..)) (fun y hy => h3 y (List.mem_cons_of_mem _ (dsort_mem hy))),
      ih (fun a ha b hb => h1 a (List.mem_cons_of_mem _ ha) b (List.mem_cons_of_mem _ hb)) fun y hy => h3 y (List.mem_cons_of_mem _ hy)]
end Rw
end

section
set_option Elab.async false
set_option linter.all false
set_option maxRecDepth 100000
set_option maxHeartbeats 4000000
/-! RfS7: built-ins by values. -/
namespace Rw
open PySem PySem.Spec PyProof.Rows L2
section
variable {C : CI} {K : PySem.W.Frag} {al : AL} {H : Hp} {h : AH}
theorem litems_sq (rh : RepH C K H al h) {d : D} {v : V} {xs : List D} (r : Rep C K H al d v) (e : litems h d = some xs) : ∃ p vs, v = .ref p ∧ SqL K H p vs ∧ RepL C K H al xs vs := by
  cases d with
  | lst ys =>
    cases e
    obtain ⟨p, vs, rfl, hp, rl⟩ := r
    exact ⟨p, vs, rfl, .inl (.inl hp.1), rl⟩
  | scr ns =>
    cases e
    obtain ⟨p, rfl, hp⟩ := r
    exact ⟨p, _, rfl, hp.sq, RepL.ints ns⟩
  | ref n =>
    simp only [litems] at e
    split at e
    · rename_i ys e1
      cases e
      obtain ⟨p, ws, rfl, hp, rl, _⟩ := lst_at rh r e1
      exact ⟨p, ws, rfl, .inl (.inl hp), rl⟩
    · cases e
  | _ => cases e
theorem stems_sq (rh : RepH C K H al h) {d : D} {v : V} {xs : List D} (r : Rep C K H al d v) (e : stems h d = some xs) : ∃ p vs, v = .ref p ∧ (SqL K H p vs ∨ SqT K H p vs) ∧ RepL C K H al xs vs := by
  cases d with
  | tup ys =>
    cases e
    obtain ⟨p, vs, rfl, hp, rl⟩ := r
    exact ⟨p, vs, rfl, .inr hp.sq, rl⟩
  | _ =>
    obtain ⟨p, vs, e1, e2, e3⟩ := litems_sq rh r e
    exact ⟨p, vs, e1, .inl e2, e3⟩
theorem allBl_of : ∀ {xs : List D} {vs : List V} {bs : List Bool}, RepL C K H al xs vs → allBl xs = some bs → vs = bs.map V.bl
  | [], vs, bs, r, e => by
    cases e
    exact r
  | x :: xs, vs, bs, r, e => by
    obtain ⟨v, ws, rfl, r1, r2⟩ := r
    cases x with
    | bl b =>
      simp only [allBl, Option.map_eq_some_iff] at e
      obtain ⟨cs, e, rfl⟩ := e
      cases (show v = V.bl b from r1)
      rw [allBl_of r2 e]
      rfl
    | _ => cases e
theorem allInt_of : ∀ {xs : List D} {vs : List V} {bs : List Int}, RepL C K H al xs vs → allInt xs = some bs → vs = bs.map V.int
  | [], vs, bs, r, e => by
    cases e
    exact r
  | x :: xs, vs, bs, r, e => by
    obtain ⟨v, ws, rfl, r1, r2⟩ := r
    cases x with
    | int b =>
      simp only [allInt, Option.map_eq_some_iff] at e
      obtain ⟨cs, e, rfl⟩ := e
      cases (show v = V.int b from r1)
      rw [allInt_of r2 e]
      rfl
    | _ => cases e
theorem Reads.uq {h : Heap} {v : Value} {d d' : PyData} {as as' : List Addr} (r : Reads h v d as) (r' : Reads h v d' as') : d = d' := (Reads.unique r _ _ r').1
end
/-- a built-in, by values -/
def rB (C : CI) (K : PySem.W.Frag) (f : BI) : List V → Hp → VK → Prop := fun vs H Q =>
  ∃ al h xs, RepH C K H al h ∧ RepL C K H al xs vs ∧ Post C K al H (rF C K) (opt h (biEv f h xs)) Q (fun _ _ _ => False)
section
variable {C : CI} {X : Cx}
theorem rB1 {f : BI} {vs : List V} {H : Hp} {Q : VK} (h2 : ∀ h x y, biEv f h [x, y] = none) (q : rB C X.K f vs H Q) : ∃ al h x v a, vs = [v] ∧ RepH C X.K H al h ∧ Rep C X.K H al x v ∧ biEv f h [x] = some a ∧ Post C X.K al H (rF C X.K) (.ok a h) Q (fun _ _ _ => False) := by
  obtain ⟨al, h, xs, rh, rx, p⟩ := q
  obtain ⟨a, e, p⟩ := opt_some p
  match xs, rx, e with
  | [], _, e => cases e
  | [x], rx, e =>
    obtain ⟨v, ws, rfl, r1, r2⟩ := rx
    cases (show ws = [] from r2)
    exact ⟨al, h, x, v, a, rfl, rh, r1, e, by rw [e] at p; exact p⟩
  | [x, y], _, e => rw [h2] at e; cases e
  | _ :: _ :: _ :: _, _, e => cases e
theorem rB2 {f : BI} {vs : List V} {H : Hp} {Q : VK} (h2 : ∀ h x, biEv f h [x] = none) (q : rB C X.K f vs H Q) : ∃ al h x y v w a, vs = [v, w] ∧ RepH C X.K H al h ∧ Rep C X.K H al x v ∧ Rep C X.K H al y w ∧ biEv f h [x, y] = some a ∧ Post C X.K al H (rF C X.K) (.ok a h) Q (fun _ _ _ => False) := by
  obtain ⟨al, h, xs, rh, rx, p⟩ := q
  obtain ⟨a, e, p⟩ := opt_some p
  match xs, rx, e with
  | [], _, e => cases e
  | [x], rx, e => rw [h2] at e; cases e
  | [x, y], rx, e =>
    obtain ⟨v, ws, rfl, r1, r2⟩ := rx
    obtain ⟨w, ws, rfl, r2, r3⟩ := r2
    cases (show ws = [] from r3)
    exact ⟨al, h, x, y, v, w, a, rfl, rh, r1, r2, e, by rw [e] at p; exact p⟩
  | _ :: _ :: _ :: _, _, e => cases e
theorem cb_len : CallR X (.builtin "len") (rB C X.K .len) := by
  intro pins s σ H vs us Q I r q
  obtain ⟨al, h, x, v, a, rfl, rh, rx, e, p⟩ := rB1 (fun _ _ _ => rfl) q
  have key : (∀ s, x ≠ .str s) → wpAny (model X.prog X.w) X.A (call (.builtin "len") us) (EP X pins σ Q) X.xe s := fun hn => by
    have e : (items h x).map (fun xs => ((.int xs.length, false) : DF)) = some a := by
      cases x with
      | str s => exact absurd rfl (hn s)
      | _ => exact e
    obtain ⟨xs, e1, rfl⟩ := Option.map_eq_some_iff.mp e
    obtain ⟨q', ws, rfl, hs, rl⟩ := items_sq rh rx e1
    refine call_len_seq pins s σ H _ us Q I r ⟨q', ws, rfl, hs, ?_⟩
    rw [← rl.length]
    exact p.same rh rfl rfl
  cases x with
  | str z =>
    simp only [biEv] at e
    split at e
    · rename_i hz
      cases e
      cases (show v = _ from rx)
      refine call_len_str pins s σ H _ us Q I r ⟨_, rfl, ?_, ?_⟩
      · rw [strLen]; exact ln_line hz
      · rw [strLen]; exact p.same rh rfl rfl
    · cases e
  | _ => exact key fun s e => nomatch e
theorem cb_all (hc : X.calm = true) : CallR X (.builtin "all") (rB C X.K .all) := by
  intro pins s σ H vs us Q I r q
  obtain ⟨al, h, x, v, a, rfl, rh, rx, e, p⟩ := rB1 (fun _ _ _ => rfl) q
  simp only [biEv, Option.bind_eq_some_iff, Option.map_eq_some_iff] at e
  obtain ⟨xs, e1, bs, e2, rfl⟩ := e
  obtain ⟨q', ws, rfl, hs, rl⟩ := litems_sq rh rx e1
  cases allBl_of rl e2
  exact cr_all hc pins s σ H _ us Q I r ⟨q', bs, rfl, hs, p.same rh rfl rfl⟩
theorem cb_any (hc : X.calm = true) : CallR X (.builtin "any") (rB C X.K .any) := by
  intro pins s σ H vs us Q I r q
  obtain ⟨al, h, x, v, a, rfl, rh, rx, e, p⟩ := rB1 (fun _ _ _ => rfl) q
  simp only [biEv, Option.bind_eq_some_iff, Option.map_eq_some_iff] at e
  obtain ⟨xs, e1, bs, e2, rfl⟩ := e
  obtain ⟨q', ws, rfl, hs, rl⟩ := litems_sq rh rx e1
  cases allBl_of rl e2
  exact cr_any hc pins s σ H _ us Q I r ⟨q', bs, rfl, hs, p.same rh rfl rfl⟩
theorem cb_sum (hc : X.calm = true) : CallR X (.builtin "sum") (rB C X.K .sum) := by
  intro pins s σ H vs us Q I r q
  obtain ⟨al, h, x, v, a, rfl, rh, rx, e, p⟩ := rB1 (fun _ _ _ => rfl) q
  simp only [biEv, Option.bind_eq_some_iff, Option.map_eq_some_iff] at e
  obtain ⟨xs, e1, bs, e2, rfl⟩ := e
  obtain ⟨q', ws, rfl, hs, rl⟩ := litems_sq rh rx e1
  cases allInt_of rl e2
  exact cr_sum hc pins s σ H _ us Q I r ⟨q', bs, rfl, hs, p.same rh rfl rfl⟩
theorem cb_abs : CallR X (.builtin "abs") (rB C X.K .abs) := by
  intro pins s σ H vs us Q I r q
  obtain ⟨al, h, x, v, a, rfl, rh, rx, e, p⟩ := rB1 (fun _ _ _ => rfl) q
  cases x with
  | int i =>
    cases e
    cases (show v = _ from rx)
    exact call_abs pins s σ H _ us Q I r ⟨i, rfl, p.same rh rfl rfl⟩
  | _ => cases e
theorem cb_int : CallR X (.type "int") (rB C X.K .int) := by
  intro pins s σ H vs us Q I r q
  obtain ⟨al, h, x, v, a, rfl, rh, rx, e, p⟩ := rB1 (fun _ _ _ => rfl) q
  cases x with
  | int i =>
    cases e
    cases (show v = _ from rx)
    exact call_int1 pins s σ H _ us Q I r (.inl ⟨i, rfl, p.same rh rfl rfl⟩)
  | bl b =>
    cases e
    cases (show v = _ from rx)
    exact call_int1 pins s σ H _ us Q I r (.inr ⟨b, rfl, p.same rh rfl rfl⟩)
  | _ => cases e
theorem cb_min2 (hc : X.calm = true) : CallR X (.builtin "min") (rB C X.K .min2) := by
  intro pins s σ H vs us Q I r q
  obtain ⟨al, h, x, y, v, w, a, rfl, rh, rx, ry, e, p⟩ := rB2 (fun _ _ => rfl) q
  cases x with
  | int i =>
    cases y with
    | int j =>
      cases e
      cases (show v = _ from rx)
      cases (show w = _ from ry)
      exact call_min2 hc pins s σ H _ us Q I r ⟨i, j, rfl, p.same rh rfl rfl⟩
    | _ => cases e
  | _ => cases e
theorem cb_max2 (hc : X.calm = true) : CallR X (.builtin "max") (rB C X.K .max2) := by
  intro pins s σ H vs us Q I r q
  obtain ⟨al, h, x, y, v, w, a, rfl, rh, rx, ry, e, p⟩ := rB2 (fun _ _ => rfl) q
  cases x with
  | int i =>
    cases y with
    | int j =>
      cases e
      cases (show v = _ from rx)
      cases (show w = _ from ry)
      exact call_max2 hc pins s σ H _ us Q I r ⟨i, j, rfl, p.same rh rfl rfl⟩
    | _ => cases e
  | _ => cases e
theorem cb_tuple : CallR X (.type "tuple") (rB C X.K .tuple) := by
  intro pins s σ H vs us Q I r q
  obtain ⟨al, h, x, v, a, rfl, rh, rx, e, p⟩ := rB1 (fun _ _ _ => rfl) q
  have key : (litems h x).map (fun xs => ((.tup xs, false) : DF)) = some a → wpAny (model X.prog X.w) X.A (call (.type "tuple") us) (EP X pins σ Q) X.xe s := fun e => by
    obtain ⟨xs, e1, rfl⟩ := Option.map_eq_some_iff.mp e
    obtain ⟨q', ws, rfl, hs, rl⟩ := litems_sq rh rx e1
    exact call_tuple_of pins s σ H _ us Q I r ⟨q', ws, rfl, .inl ⟨hs, fun l hl => p.new rh hl (rep_tup rh hl rl) fun z => nomatch z⟩⟩
  cases x with
  | tup ys =>
    cases e
    obtain ⟨q', ws, rfl, hs, rl⟩ := rx
    exact call_tuple_of pins s σ H _ us Q I r ⟨q', ws, rfl, .inr ⟨hs.sq, p.same rh ⟨q', ws, rfl, hs, rl⟩ rfl⟩⟩
  | _ => exact key e
theorem cb_list : CallR X (.type "list") (rB C X.K .list) := by
  intro pins s σ H vs us Q I r q
  obtain ⟨al, h, x, v, a, rfl, rh, rx, e, p⟩ := rB1 (fun _ _ _ => rfl) q
  obtain ⟨xs, e1, rfl⟩ := Option.map_eq_some_iff.mp (show (stems h x).map (fun xs => ((.lst xs, true) : DF)) = some a from e)
  obtain ⟨q', ws, rfl, hs, rl⟩ := stems_sq rh rx e1
  exact call_list_of pins s σ H _ us Q I r ⟨q', ws, rfl, hs, fun l hl => p.new rh hl (rep_lst rh hl rl) fun _ => rl⟩
theorem digs_eq (i : Int) : Str.ofString (toString i) = ⟨(digs i).toArray⟩ := Str.ofString_eq_toList _
theorem cb_str : CallR X (.type "str") (rB C X.K .str) := by
  intro pins s σ H vs us Q I r q
  obtain ⟨al, h, x, v, a, rfl, rh, rx, e, p⟩ := rB1 (fun _ _ _ => rfl) q
  cases x with
  | int i =>
    simp only [biEv] at e
    split at e
    · rename_i hi
      cases e
      cases (show v = _ from rx)
      have hs := small_mul hi
      have hl : i.natAbs.log2 < 1920 := by
        by_cases h0 : i.natAbs = 0
        · rw [h0]; decide
        · exact Nat.lt_of_lt_of_le ((Nat.log2_lt h0).mpr (show i.natAbs < 2 ^ 64 by omega)) (by decide)
      refine call_str_int pins s σ H _ us Q I r ⟨i, rfl, hl, ?_⟩
      refine p.same rh ?_ rfl
      show V.str _ = V.str _
      rw [← digs_eq]
    · cases e
  | _ => cases e
/-! ### least, greatest, sorted -/
theorem minD_d : ∀ (xs : List D) (x : D), (∀ a ∈ x :: xs, ∀ b ∈ x :: xs, dalike a b = true) → (∀ a ∈ x :: xs, plK 4 a = true) → PySem.W.minD (toPD x) (toPDL xs) = toPD (dmin x xs) ∧ dmin x xs ∈ x :: xs
  | [], x, _, _ => ⟨rfl, List.mem_cons_self ..⟩
  | y :: ys, x, ha, hp => by
    have e := dlt_pd y x 4 4 (ha y (by simp) x (by simp)) (hp y (by simp)) (hp x (by simp))
    by_cases hl : dlt y x = true
    · have ih := minD_d ys y (fun a h b h' => ha a (List.mem_cons_of_mem _ h) b (List.mem_cons_of_mem _ h')) fun a h => hp a (List.mem_cons_of_mem _ h)
      have e1 : dmin x (y :: ys) = dmin y ys := by simp [dmin, hl]
      rw [e1, toPDL]
      refine ⟨?_, List.mem_cons_of_mem _ ih.2⟩
      rw [← ih.1]
      show List.foldl _ (if PySem.W.dataLt (toPD y) (toPD x) = true then _ else _) _ = _
      rw [← e, if_pos hl]
      rfl
    · have ih := minD_d ys x (fun a h b h' => ha a (by rcases List.mem_cons.mp h with h | h <;> simp [h]) b (by rcases List.mem_cons.mp h' with h | h <;> simp [h])) fun a h => hp a (by rcases List.mem_cons.mp h with h | h <;> simp [h])
      have e1 : dmin x (y :: ys) = dmin x ys := by simp [dmin, hl]
      rw [e1, toPDL]
      refine ⟨?_, by rcases List.mem_cons.mp ih.2 with h | h <;> simp [h]⟩
      rw [← ih.1]
      show List.foldl _ (if PySem.W.dataLt (toPD y) (toPD x) = true then _ else _) _ = _
      rw [← e, if_neg hl]
      rfl
theorem maxD_d : ∀ (xs : List D) (x : D), (∀ a ∈ x :: xs, ∀ b ∈ x :: xs, dalike a b = true) → (∀ a ∈ x :: xs, plK 4 a = true) → PySem.W.maxD (toPD x) (toPDL xs) = toPD (dmax x xs) ∧ dmax x xs ∈ x :: xs
  | [], x, _, _ => ⟨rfl, List.mem_cons_self ..⟩
  | y :: ys, x, ha, hp => by
    have e := dlt_pd x y 4 4 (ha x (by simp) y (by simp)) (hp x (by simp)) (hp y (by simp))
    by_cases hl : dlt x y = true
    · have ih := maxD_d ys y (fun a h b h' => ha a (List.mem_cons_of_mem _ h) b (List.mem_cons_of_mem _ h')) fun a h => hp a (List.mem_cons_of_mem _ h)
      have e1 : dmax x (y :: ys) = dmax y ys := by simp [dmax, hl]
      rw [e1, toPDL]
      refine ⟨?_, List.mem_cons_of_mem _ ih.2⟩
      rw [← ih.1]
      show List.foldl _ (if PySem.W.dataLt (toPD x) (toPD y) = true then _ else _) _ = _
      rw [← e, if_pos hl]
      rfl
    · have ih := maxD_d ys x (fun a h b h' => ha a (by rcases List.mem_cons.mp h with h | h <;> simp [h]) b (by rcases List.mem_cons.mp h' with h | h <;> simp [h])) fun a h => hp a (by rcases List.mem_cons.mp h with h | h <;> simp [h])
      have e1 : dmax x (y :: ys) = dmax x ys := by simp [dmax, hl]
      rw [e1, toPDL]
      refine ⟨?_, by rcases List.mem_cons.mp ih.2 with h | h <;> simp [h]⟩
      rw [← ih.1]
      show List.foldl _ (if PySem.W.dataLt (toPD x) (toPD y) = true then _ else _) _ = _
      rw [← e, if_neg hl]
      rfl
mutual
theorem toPD_inj : ∀ (x y : D) (k : Nat), plK k x = true → plK k y = true → toPD x = toPD y → x = y
  | x, y, k, hx, hy, e => by
    cases x with
    | non => cases y <;> first | rfl | (simp [toPD] at e; done) | (cases k <;> cases hy)
    | bl a => cases y <;> first | (simp [toPD] at e; subst e; rfl) | (simp [toPD] at e; done) | (cases k <;> cases hy)
    | int a => cases y <;> first | (simp [toPD] at e; subst e; rfl) | (simp [toPD] at e; done) | (cases k <;> cases hy)
    | str a => cases y <;> first | (simp [toPD] at e; subst e; rfl) | (simp [toPD] at e; done) | (cases k <;> cases hy)
    | tup xs =>
      obtain ⟨j, rfl, hxs⟩ := plK_tup hx
      cases y with
      | tup ys =>
        obtain ⟨_, e1, hys⟩ := plK_tup hy
        cases e1
        simp only [toPD, PyData.tuple.injEq] at e
        rw [toPD_injL xs ys j hxs hys e]
      | _ => first | (simp [toPD] at e; done) | cases hy
    | lst xs =>
      obtain ⟨j, rfl, hxs⟩ := plK_lst hx
      cases y with
      | lst ys =>
        obtain ⟨_, e1, hys⟩ := plK_lst hy
        cases e1
        simp only [toPD, PyData.list.injEq] at e
        rw [toPD_injL xs ys j hxs hys e]
      | _ => first | (simp [toPD] at e; done) | cases hy
    | _ => cases k <;> cases hx
theorem toPD_injL : ∀ (xs ys : List D) (k : Nat), xs.all (plK k) = true → ys.all (plK k) = true → toPDL xs = toPDL ys → xs = ys
  | [], [], _, _, _, _ => rfl
  | [], _ :: _, _, _, _, e => by simp [toPDL] at e
  | _ :: _, [], _, _, _, e => by simp [toPDL] at e
  | x :: xs, y :: ys, k, hx, hy, e => by
    simp only [toPDL, List.cons.injEq] at e
    rw [toPD_inj x y k (all_cons hx).1 (all_cons hy).1 e.1, toPD_injL xs ys k (all_cons hx).2 (all_cons hy).2 e.2]
end

theorem Vals.getR : ∀ {xs : List V} {us : List Value} {i : Nat} {u : Value}, Vals xs us → us[i]? = some u → ∃ x, xs[i]? = some x ∧ RelV x u
  | _, _, i, u, .nil, e => by simp at e
  | _, _, 0, u, .cons r t, e => by
    cases e
    exact ⟨_, rfl, r⟩
  | _, _, i + 1, u, .cons r t, e => by
    have q := Vals.getR (i := i) t e
    exact q
theorem RepL.getR {K : PySem.W.Frag} {H : Hp} {al : AL} : ∀ {ds : List D} {vs : List V} {i : Nat} {v : V}, RepL C K H al ds vs → vs[i]? = some v → ∃ d, ds[i]? = some d ∧ Rep C K H al d v
  | [], vs, i, v, r, e => by
    cases (show vs = [] from r)
    simp at e
  | d :: ds, vs, 0, v, r, e => by
    obtain ⟨w, ws, rfl, r1, r2⟩ := r
    cases e
    exact ⟨_, rfl, r1⟩
  | d :: ds, vs, i + 1, v, r, e => by
    obtain ⟨w, ws, rfl, r1, r2⟩ := r
    have q := RepL.getR (i := i) r2 e
    exact q
/-- what a sort or a least one reads -/
theorem sq_reads {pins : List (Addr × Obj)} {s : Shared} {σ : L2.St} {H : Hp} (I : Inv X pins σ H s) {q : Addr} {vs : List V} (hs : SqL X.K H q vs ∨ SqT X.K H q vs) :
    ∃ its T o n, Vals vs its ∧ (T = "list" ∨ T = "tuple") ∧ s.heap.get? q = some o ∧ o.cls = .type T ∧ o.data = .seq its.toArray n ∧ ((s.heap.IsList q its.toArray ∧ T = "list") ∨ (s.heap.IsTuple q its.toArray ∧ T = "tuple")) ∧ its.length ≤ sizeLine := by
  rcases hs with hs | hs
  · obtain ⟨its, rv, pl, hz⟩ := I.list hs
    obtain ⟨o, ho, hc, n, hd⟩ := pl.isList
    exact ⟨its, "list", o, n, rv, .inl rfl, ho, hc, hd, .inl ⟨pl.isList, rfl⟩, by rw [← rv.length]; exact hz⟩
  · obtain ⟨its, rv, pl, hz⟩ := I.tuple hs
    have pl' : s.heap.IsTuple q its.toArray := pl
    obtain ⟨o, ho, hc, n, hd⟩ := pl
    exact ⟨its, "tuple", o, n, rv, .inr rfl, ho, hc, hd, .inr ⟨pl', rfl⟩, by rw [← rv.length]; exact hz⟩
theorem alike_all {xs : List D} (h1 : ∀ x ∈ xs, ∀ y ∈ xs, dalike x y = true) : PySem.W.AlikeAll (toPDL xs) := by
  rw [toPDL_map]
  refine ⟨fun a ha b hb => ?_, fun a ha => ?_⟩
  · obtain ⟨x, hx, rfl⟩ := List.mem_map.mp ha
    obtain ⟨y, hy, rfl⟩ := List.mem_map.mp hb
    exact alike_pd _ _ (h1 x hx y hy)
  · obtain ⟨x, hx, rfl⟩ := List.mem_map.mp ha
    exact alike_nn (h1 x hx x hx)
/-- which item it is -/
theorem the_item {pins : List (Addr × Obj)} {s : Shared} {σ : L2.St} {H : Hp} {al : AL} (I : Inv X pins σ H s) {xs : List D} {vs : List V} {its : List Value} (rl : RepL C X.K H al xs vs) (rv : Vals vs its) (hp : ∀ x ∈ xs, plK 4 x = true) {m : D} (hm : plK 4 m = true)
    {i : Nat} {v : Value} {h' : Heap} {bs : List Addr} (e : its[i]? = some v) (r : Reads h' v (toPD m) bs) (k : ∀ b o, s.heap.get? b = some o → h'.get? b = some o) : ∃ x, RelV x v ∧ Rep C X.K H al m x := by
  obtain ⟨x, e1, rx⟩ := Vals.getR rv e
  obtain ⟨d, e2, rd⟩ := RepL.getR rl e1
  have hd := hp d (List.mem_of_getElem? e2)
  obtain ⟨as, r1⟩ := Dp.reads I _ _ _ (rep_dp d 4 hd rd) rx
  have r2 := PyProof.Rows.Reads.keeps k r1
  have := toPD_inj d m 4 hd hm (Reads.uq r2 r)
  subst this
  exact ⟨x, rx, rd⟩
theorem cb_minL (hc : X.calm = true) (hu : X.A.units + 64 < cLine) : CallR X (.builtin "min") (rB C X.K .minL) := by
  intro pins s σ H vs us Q I r q
  obtain ⟨al, h, x, v, a, rfl, rh, rx, e, p⟩ := rB1 (fun _ _ _ => rfl) q
  obtain ⟨xs, e1, e2⟩ := Option.bind_eq_some_iff.mp (show (stems h x).bind (fun xs => match xs with | [] => none | a :: r => if sortable (a :: r) then some ((dmin a r, false) : DF) else none) = some a from e)
  match xs, e1, e2 with
  | [], _, e2 => cases e2
  | b :: bs, e1, e2 =>
    simp only at e2
    split at e2
    · rename_i hs
      cases e2
      obtain ⟨h1, h2, _⟩ := sortable_all hs
      obtain ⟨q', ws, rfl, hq, rl⟩ := stems_sq rh rx e1
      obtain ⟨its, T, o, n, rv, hT, ho, hc', hd, hl, hz⟩ := sq_reads I hq
      obtain ⟨md, mm⟩ := minD_d bs b h1 h2
      rw [Vals.ref1 r]
      obtain ⟨as, ra⟩ := Dp.readsAll I _ _ _ (rep_dpL _ 4 (List.all_eq_true.mpr h2) rl) rv
      have hd4 := depth_pdL (b :: bs) 4 (List.all_eq_true.mpr h2)
      have fin : ∀ (i : Nat) (v : Value) (h' : Heap) (tk : Nat) (cs : List Addr), its.toArray[i]? = some v → Reads h' v (PySem.W.minD (toPD b) (toPDL bs)) cs → (∀ b o, s.heap.get? b = some o → h'.get? b = some o) → EP X pins σ Q v { s with heap := h', toks := tk } := fun i v h' tk cs ei ri k => by
        rw [md] at ri
        obtain ⟨x, rx', rd⟩ := the_item I rl rv h2 (h2 _ mm) (by simpa using ei) ri k
        exact ⟨x, H, I.kept k, rx', p.same rh rd rfl⟩
      rcases hl with ⟨hl, _⟩ | ⟨hl, _⟩
      · exact PySem.W.min_list_data (I.ok.hd hc) hl (by simpa [toPDL] using ra) (alike_all h1) (by show X.A.units + 1 + PyData.depthAll (toPDL (b :: bs)) < cLine; omega) fin
      · exact PySem.W.min_tuple_data (I.ok.hd hc) hl (by simpa [toPDL] using ra) (alike_all h1) (by show X.A.units + 1 + PyData.depthAll (toPDL (b :: bs)) < cLine; omega) fin
    · cases e2
theorem cb_maxL (hc : X.calm = true) (hu : X.A.units + 64 < cLine) : CallR X (.builtin "max") (rB C X.K .maxL) := by
  intro pins s σ H vs us Q I r q
  obtain ⟨al, h, x, v, a, rfl, rh, rx, e, p⟩ := rB1 (fun _ _ _ => rfl) q
  obtain ⟨xs, e1, e2⟩ := Option.bind_eq_some_iff.mp (show (stems h x).bind (fun xs => match xs with | [] => none | a :: r => if sortable (a :: r) then some ((dmax a r, false) : DF) else none) = some a from e)
  match xs, e1, e2 with
  | [], _, e2 => cases e2
  | b :: bs, e1, e2 =>
    simp only at e2
    split at e2
    · rename_i hs
      cases e2
      obtain ⟨h1, h2, _⟩ := sortable_all hs
      obtain ⟨q', ws, rfl, hq, rl⟩ := stems_sq rh rx e1
      obtain ⟨its, T, o, n, rv, hT, ho, hc', hd, hl, hz⟩ := sq_reads I hq
      obtain ⟨md, mm⟩ := maxD_d bs b h1 h2
      rw [Vals.ref1 r]
      obtain ⟨as, ra⟩ := Dp.readsAll I _ _ _ (rep_dpL _ 4 (List.all_eq_true.mpr h2) rl) rv
      have hd4 := depth_pdL (b :: bs) 4 (List.all_eq_true.mpr h2)
      have fin : ∀ (i : Nat) (v : Value) (h' : Heap) (tk : Nat) (cs : List Addr), its.toArray[i]? = some v → Reads h' v (PySem.W.maxD (toPD b) (toPDL bs)) cs → (∀ b o, s.heap.get? b = some o → h'.get? b = some o) → EP X pins σ Q v { s with heap := h', toks := tk } := fun i v h' tk cs ei ri k => by
        rw [md] at ri
        obtain ⟨x, rx', rd⟩ := the_item I rl rv h2 (h2 _ mm) (by simpa using ei) ri k
        exact ⟨x, H, I.kept k, rx', p.same rh rd rfl⟩
      rcases hl with ⟨hl, _⟩ | ⟨hl, _⟩
      · exact PySem.W.max_list_data (I.ok.hd hc) hl (by simpa [toPDL] using ra) (alike_all h1) (by show X.A.units + 1 + PyData.depthAll (toPDL (b :: bs)) < cLine; omega) fin
      · exact PySem.W.max_tuple_data (I.ok.hd hc) hl (by simpa [toPDL] using ra) (alike_all h1) (by show X.A.units + 1 + PyData.depthAll (toPDL (b :: bs)) < cLine; omega) fin
    · cases e2
end
/-- the sorted items -/
theorem each_of_rep {C : CI} {K : PySem.W.Frag} {H : Hp} {al : AL} : ∀ {xs : List D} {vs : List V} {us : List Value}, RepL C K H al xs vs → Vals vs us → PySem.W.EachIs (fun u d => ∃ v, RelV v u ∧ Rep C K H al d v) us xs
  | [], vs, us, r, rv => by
    cases (show vs = [] from r)
    cases rv
    exact .nil
  | x :: xs, vs, us, r, rv => by
    obtain ⟨v, ws, rfl, r1, r2⟩ := r
    cases rv with
    | cons a b => exact .cons ⟨v, a, r1⟩ (each_of_rep r2 b)
theorem rep_of_each {C : CI} {K : PySem.W.Frag} {H : Hp} {al : AL} {us : List Value} {xs : List D} (e : PySem.W.EachIs (fun u d => ∃ v, RelV v u ∧ Rep C K H al d v) us xs) : ∃ vs, RepL C K H al xs vs ∧ Vals vs us := by
  induction e with
  | nil => exact ⟨[], rfl, .nil⟩
  | cons a _ ih =>
    obtain ⟨v, r1, r2⟩ := a
    obtain ⟨vs, q1, q2⟩ := ih
    exact ⟨v :: vs, ⟨v, vs, rfl, r2, q1⟩, .cons r1 q2⟩
section
variable {C : CI} {X : Cx}
theorem cb_sorted (hu : X.A.units + 64 < cLine) : CallR X (.builtin "sorted") (rB C X.K .sorted) := by
  intro pins s σ H vs us Q I r q
  obtain ⟨al, h, x, v, a, rfl, rh, rx, e, p⟩ := rB1 (fun _ _ _ => rfl) q
  obtain ⟨xs, e1, e2⟩ := Option.bind_eq_some_iff.mp (show (stems h x).bind (fun xs => if sortable xs && decide (xs.length ≤ LN) then some ((.lst (dsort xs), true) : DF) else none) = some a from e)
  split at e2
  · rename_i hs
    cases e2
    simp only [Bool.and_eq_true, decide_eq_true_eq] at hs
    obtain ⟨h1, h2, h3⟩ := sortable_all hs.1
    obtain ⟨q', ws, rfl, hq, rl⟩ := stems_sq rh rx e1
    obtain ⟨its, T, o, n, rv, hT, ho, hc', hd, hl, hz⟩ := sq_reads I hq
    rw [Vals.ref1 r]
    have er := each_of_rep rl rv
    have hal : PySem.W.AllAlike (xs.map toPD) := fun d hd d' hd' => by
      obtain ⟨y, hy, rfl⟩ := List.mem_map.mp hd
      obtain ⟨z, hz, rfl⟩ := List.mem_map.mp hd'
      exact alike_pd _ _ (h1 y hy z hz)
    have erd : ∀ h' : Heap, (∀ b o, s.heap.get? b = some o → h'.get? b = some o) → PySem.W.EachIs (fun u b => ∃ as, Reads h' u (toPD b) as) its xs := fun h' k =>
      (PySem.W.each_mem er).mono fun u d ⟨⟨v, r1, r2⟩, hb⟩ => by
        obtain ⟨as, ra⟩ := Dp.reads I _ _ _ (rep_dp d 4 (h2 d hb) r2) r1
        exact ⟨as, PyProof.Rows.Reads.keeps k ra⟩
    have hun : ∀ d ∈ xs.map toPD, X.A.in1.in1.units + d.depth < cLine := fun d hd => by
      obtain ⟨y, hy, rfl⟩ := List.mem_map.mp hd
      have := depth_pd y 4 (h2 y hy)
      show X.A.units + 1 + 1 + _ < _
      omega
    have k0 : ∀ b o, s.heap.get? b = some o → (PySem.W.sortingHeap (PySem.W.copyHeap s.heap its) (s.heap.objs.size + 1) its).get? b = some o := fun b o e => PySem.W.sorting_copy_old e
    have em : PySem.W.EachIs (fun u d => ∃ as, Reads (PySem.W.sortingHeap (PySem.W.copyHeap s.heap its) (s.heap.objs.size + 1) its) u d as) its (xs.map toPD) := PySem.W.each_map (enc := toPD) (erd _ k0)
    refine sorted_seq (κ := PySem.W.dataKind (PySem.W.sortingHeap (PySem.W.copyHeap s.heap its) (s.heap.objs.size + 1) its) (xs.map toPD)) hT ho hc' hd hz ?_ ?_
    · rcases h3 with h3 | h3
      · refine SortsAt.data0 (s := { s with heap := _ }) em hal (fun d hd => ?_) hun
        obtain ⟨y, hy, rfl⟩ := List.mem_map.mp hd
        obtain ⟨ys, rfl⟩ := h3 y hy
        exact ⟨_, rfl⟩
      · refine PySem.W.SortsAt.data (s := { s with heap := _ }) em hal (.inr fun d hd => ?_) hun
        obtain ⟨y, hy, rfl⟩ := List.mem_map.mp hd
        rcases h3 y hy with ⟨i, rfl⟩ | ⟨i, rfl⟩
        · exact ⟨(fun e => nomatch e), (fun _ e => nomatch e)⟩
        · exact ⟨(fun e => nomatch e), (fun _ e => nomatch e)⟩
    · have eo := PySem.W.sortVals_data (h' := PySem.W.sortingHeap (PySem.W.copyHeap s.heap its) (s.heap.objs.size + 1) its) (enc := toPD) false er (erd _ k0) hal
      rw [← dsort_eq h1 h2] at eo
      obtain ⟨zs, rz, vz⟩ := rep_of_each eo
      obtain ⟨ep, he'⟩ := PyProof.Rows.sortedAll_at s.heap its (PySem.W.sortVals (PySem.W.dataKind (PySem.W.sortingHeap (PySem.W.copyHeap s.heap its) (s.heap.objs.size + 1) its) (xs.map toPD)) false its its).toArray
      have hlen : zs.length ≤ sizeLine := by
        rw [← rz.length, dsort_eq h1 h2, List.length_mergeSort]
        exact ln_line hs.2
      have hn := I.hok.fresh (Nat.le_succ s.heap.objs.size)
      refine ⟨.ref _, upd H (s.heap.objs.size + 1) (.lst zs), I.laid (t' := s.toks) (fun _ _ => PyProof.Rows.sortedAll_old) (Nat.le_succ _) ⟨hlen, _, ep, vz, by simpa using he'⟩, rfl, p.new rh hn (rep_lst rh hn rz) fun _ => rz⟩
  · cases e2
end
end Rw
end

section
set_option Elab.async false
set_option linter.all false
set_option maxRecDepth 100000
set_option maxHeartbeats 4000000
/-! RfSK: sorted of a dict whose keys are tuples. -/
namespace Rw
open PySem PySem.Spec PyProof.Rows L2 PySem.W PySem.Calls
theorem kdl_raw {prog : Program} {w : World} {d : Addr} {es : Array DictEntry} {ep : Nat} (lo : (d == sysModules) = false) : PySem.W.KdlSrc prog w "dict" d d es.size (fun i v => ∃ hi : i < es.size, v = es[i].key) (fun h => h.DictRaw d es ep) where
  type := fun _ hm => hm.typeIs
  there := fun _ hm => ⟨let ⟨_, ho, _⟩ := hm; Heap.lt_size ho, let ⟨_, ho, _⟩ := hm; Heap.lt_size ho⟩
  keep := fun _ _ hm hk => hm.at fun o e => hk d (.inl rfl) o e
  notList := by decide
  notTuple := by decide
  hint := fun _ _ _ _ hm hq => PySem.W.kdl_hint_dict hm.typeIs hq
  iter := fun _ s hh hm => ⟨_, _, (fun _ _ hq => wpAny_pyIter_dict_raw lo hm hq), Walks.rawKeys hh _ d (Nat.ne_of_lt (let ⟨_, ho, _⟩ := hm; Heap.lt_size ho)) es ep, ⟨⟨_, Heap.get?_push_size _ rfl, rfl, rfl⟩, hm.at fun o e => Heap.get?_push_of_some _ e⟩⟩
theorem repT_keys {C : CI} {K : PySem.W.Frag} {H : Hp} {al : AL} (nt : ∀ b vs, H b = some (.tup vs) → ¬ At al b) : ∀ {kvs : List (List Int × D)} {ws : List (List Key × V)} {xs : List (List Key × Addr × Value)}, RepT C K H al kvs ws → KT H ws xs → RepL C K H al (kvs.map fun p => .tup (p.1.map .int)) (xs.map fun x => V.ref x.2.1)
  | [], ws, xs, r, kt => by
    cases (show ws = [] from r)
    cases kt
    rfl
  | (k, d) :: kvs, ws, xs, r, kt => by
    obtain ⟨v, ws', rfl, r1, r2⟩ := r
    cases kt with
    | cons hq t =>
      refine ⟨_, _, rfl, ⟨_, _, rfl, ⟨hq.2.1, nt _ _ hq.2.1⟩, ?_⟩, repT_keys nt r2 t⟩
      rw [keyL_kV]
      exact RepL.ints k
theorem vals_refs (xs : List (List Key × Addr × Value)) : Vals (xs.map fun x => V.ref x.2.1) (xs.map fun x => Value.ref x.2.1) := by
  induction xs with
  | nil => exact .nil
  | cons x xs ih => exact .cons rfl ih
section
variable {C : CI} {X : Cx}
theorem cb_sortK (hcm : X.calm = true) (hu : X.A.units + 64 < cLine) : CallR X (.builtin "sorted") (rB C X.K .sortK) := by
  intro pins s σ H vs us Q I r q
  obtain ⟨al, h, x, v, a, rfl, rh, rx, e, p⟩ := rB1 (fun _ _ _ => rfl) q
  obtain ⟨xs, e1, e2⟩ := Option.bind_eq_some_iff.mp (show (walkedD h x).bind (fun xs => if sortable xs && decide (xs.length ≤ LN) then some ((.lst (dsort xs), true) : DF) else none) = some a from e)
  split at e2
  · rename_i hs
    cases e2
    simp only [Bool.and_eq_true, decide_eq_true_eq] at hs
    obtain ⟨h1, h2, h3⟩ := sortable_all hs.1
    obtain ⟨b, ws, kvs, rfl, hp, rt, rfl⟩ : ∃ b ws kvs, v = .ref b ∧ H b = some (.dT ws) ∧ RepT C X.K H al kvs ws ∧ xs = kvs.map fun p => .tup (p.1.map .int) := by
      cases x with
      | dT kvs =>
        cases e1
        obtain ⟨p, ws, rfl, ⟨hp, _⟩, r⟩ := rx
        exact ⟨p, ws, kvs, rfl, hp, r, rfl⟩
      | ref n =>
        unfold walkedD at e1
        dsimp only at e1
        split at e1
        · rename_i kvs eo
          cases e1
          obtain ⟨p, ws, rfl, hp, r, _⟩ := dT_at rh rx eo
          exact ⟨p, ws, kvs, rfl, hp, r, rfl⟩
        · cases e1
      | _ => cases e1
    obtain ⟨z, lo, ts, kt, o, es, ep, ho, hx, hd, hes, _⟩ := dt_of I.hok hp
    have raw : s.heap.DictRaw b es ep := ⟨o, ho, hx, hd⟩
    have rl := repT_keys (fun b vs hb ha => rh.nt b ha vs hb) rt kt
    have ll : ts.length = kvs.length := by
      have := rl.length
      rw [List.length_map, List.length_map] at this
      exact this.symm
    have esz : es.size = ts.length := by
      have := congrArg List.length hes
      rw [List.length_map, Array.length_toList] at this
      exact this
    have hL0 : ts.length ≤ sizeLine := by
      rw [ll]
      have := hs.2
      rw [List.length_map] at this
      exact ln_line this
    rw [Vals.ref1 r]
    refine call_function_entry_kw kind_sorted plain_sorted entry_sorted (args_sorted1 _) ?_
    unfold Builtin.«sorted»
    refine wpAny_bind (m := checkCount "sorted" 1 1 _) (wpAny_pure ?_)
    refine wpAny_bind (PySem.W.kdu_collect (A := X.A.in1) (kdl_raw (ep := ep) lo) (I.ok.hd hcm) raw (by rw [esz]; exact hL0) fun h' tk acc hk hacc => ?_)
    have hits : acc.toList = ts.map fun x => Value.ref x.2.1 := by
      apply List.ext_getElem?
      intro i
      by_cases hi : i < es.size
      · have hi2 : i < acc.toList.length := by rw [Array.length_toList, hacc.1]; exact hi
        obtain ⟨_, ev⟩ := hacc.2 i acc.toList[i] (by rw [← Array.getElem?_toList, List.getElem?_eq_getElem hi2])
        rw [List.getElem?_eq_getElem hi2, ev]
        have hi3 : i < ts.length := by rw [← esz]; exact hi
        have eh : es.toList[i]? = (ts.map (entryOfKey (tupleKind (mixKind X.prog X.w))))[i]? := by rw [hes]
        rw [Array.getElem?_toList, Array.getElem?_eq_getElem hi, List.getElem?_map, List.getElem?_eq_getElem hi3] at eh
        have eh := Option.some.inj eh
        rw [List.getElem?_map, List.getElem?_eq_getElem hi3, eh]
        rfl
      · rw [List.getElem?_eq_none (by rw [Array.length_toList, hacc.1]; omega), List.getElem?_eq_none (by rw [List.length_map, ← esz]; omega)]
    have I1 : Inv X pins σ H { s with heap := h', toks := tk } := I.kept hk
    have rv := vals_refs ts
    generalize hR : (ts.map fun x => Value.ref x.2.1) = its at *
    have hitl : its.length = ts.length := by rw [← hR, List.length_map]
    have hL : its.length ≤ sizeLine := by rw [hitl]; exact hL0
    rw [hits]
    refine wpAny_bind (wpAny_newList ?_ hL)
    have hoL : (h'.push (seqObj "list" its.toArray 0)).get? h'.objs.size = some (seqObj "list" its.toArray 0) := Heap.get?_push_size _ rfl
    show wpAny _ _ _ _ _ { s with heap := h'.push (seqObj "list" its.toArray 0), toks := tk }
    have er := each_of_rep rl rv
    have hal : PySem.W.AllAlike ((kvs.map fun p => D.tup (p.1.map .int)).map toPD) := fun d hd d' hd' => by
      obtain ⟨y, hy, rfl⟩ := List.mem_map.mp hd
      obtain ⟨z, hz, rfl⟩ := List.mem_map.mp hd'
      exact alike_pd _ _ (h1 y hy z hz)
    have erd : ∀ h' : Heap, (∀ b o, s.heap.get? b = some o → h'.get? b = some o) → PySem.W.EachIs (fun u b => ∃ as, Reads h' u (toPD b) as) its (kvs.map fun p => D.tup (p.1.map .int)) := fun h' k =>
      (PySem.W.each_mem er).mono fun u d ⟨⟨v, r1, r2⟩, hb⟩ => by
        obtain ⟨as, ra⟩ := Dp.reads I _ _ _ (rep_dp d 4 (h2 d hb) r2) r1
        exact ⟨as, PyProof.Rows.Reads.keeps k ra⟩
    have hun : ∀ d ∈ (kvs.map fun p => D.tup (p.1.map .int)).map toPD, X.A.in1.in1.units + d.depth < cLine := fun d hd => by
      obtain ⟨y, hy, rfl⟩ := List.mem_map.mp hd
      have := depth_pd y 4 (h2 y hy)
      show X.A.units + 1 + 1 + _ < _
      omega
    have k0 : ∀ b o, s.heap.get? b = some o → (PySem.W.sortingHeap (h'.push (seqObj "list" its.toArray 0)) h'.objs.size its).get? b = some o := fun b o e =>
      PySem.W.sortingHeap_old (Nat.ne_of_lt (Heap.lt_size (hk b o e))) (Heap.get?_push_of_some _ (hk b o e))
    have em : PySem.W.EachIs (fun u d => ∃ as, Reads (PySem.W.sortingHeap (h'.push (seqObj "list" its.toArray 0)) h'.objs.size its) u d as) its ((kvs.map fun p => D.tup (p.1.map .int)).map toPD) := PySem.W.each_map (enc := toPD) (erd _ k0)
    have S : PySem.W.SortsAt X.prog X.w X.A.in1.in1 { s with heap := PySem.W.sortingHeap (h'.push (seqObj "list" its.toArray 0)) h'.objs.size its, toks := tk } (PySem.W.dataKind (PySem.W.sortingHeap (h'.push (seqObj "list" its.toArray 0)) h'.objs.size its) ((kvs.map fun p => D.tup (p.1.map .int)).map toPD)) its := by
      refine SortsAt.data0 (s := { s with heap := _, toks := tk }) em hal (fun d hd => ?_) hun
      obtain ⟨y, hy, rfl⟩ := List.mem_map.mp hd
      obtain ⟨pk, hpk, rfl⟩ := List.mem_map.mp hy
      exact ⟨_, rfl⟩
    have eo := PySem.W.sortVals_data (h' := PySem.W.sortingHeap (h'.push (seqObj "list" its.toArray 0)) h'.objs.size its) (enc := toPD) false er (erd _ k0) hal
    rw [← dsort_eq h1 h2] at eo
    obtain ⟨zs, rz, vz⟩ := rep_of_each eo
    obtain ⟨ep', he'⟩ := PyProof.Rows.sortedHeap_at (vs := its) (out := (PySem.W.sortVals (PySem.W.dataKind (PySem.W.sortingHeap (h'.push (seqObj "list" its.toArray 0)) h'.objs.size its) ((kvs.map fun p => D.tup (p.1.map .int)).map toPD)) false its its).toArray) hoL
    have hlen : zs.length ≤ sizeLine := by
      rw [← rz.length, dsort_eq h1 h2, List.length_mergeSort]
      exact ln_line hs.2
    have hn := I1.hok.fresh (Nat.le_refl h'.objs.size)
    refine wpAny_bind (wpAny_holding (wpAny_call_entry_kw slot_list_sort ⟨_, hoL, rfl⟩ entry_list_sort ?body (args_list_sort _)))
    case body =>
      show wpAny (model X.prog X.w) X.A.in1.in1 (Builtin.«list.sort» ⟨[.ref h'.objs.size], []⟩) _ _ _
      refine wpAny_mono (PySem.W.list_sort_vals (κ := PySem.W.dataKind (PySem.W.sortingHeap (h'.push (seqObj "list" its.toArray 0)) h'.objs.size its) ((kvs.map fun p => D.tup (p.1.map .int)).map toPD)) (s := { s with heap := h'.push (seqObj "list" its.toArray 0), toks := tk }) (P := fun f s' => f = .done (.ret .none) ∧ EP X pins σ Q (.ref h'.objs.size) s') hoL S hL ⟨rfl, ?_⟩) (fun f s' hf => ?_) fun _ _ e => e
      · refine ⟨.ref _, upd H h'.objs.size (.lst zs), I1.laid (t' := tk) (fun b u e => ?_) (Nat.le_refl _) ⟨hlen, _, ep', vz, by simpa using he'⟩, rfl, p.new rh hn (rep_lst rh hn rz) fun _ => rz⟩
        have hb : b < h'.objs.size := Heap.lt_size e
        rw [PyProof.Rows.sortedHeap_old (Nat.ne_of_lt hb) (by rw [size_push']; exact Nat.lt_succ_of_lt hb)]
        exact Heap.get?_push_of_some _ e
      · obtain ⟨rfl, hq⟩ := hf
        exact ⟨_, rfl, wpAny_pure ⟨_, rfl, hq⟩⟩
  · cases e2
end
end Rw
end

section
set_option Elab.async false
set_option linter.all false
set_option maxRecDepth 100000
set_option maxHeartbeats 4000000
/-! RfS8: subscripts, slices, methods. -/
namespace Rw
open PySem PySem.Spec PyProof.Rows L2
theorem ixOf_atI {α : Type} {xs : List α} {j : Int} {k : Nat} {v : α} (e : ixOf xs.length j = some k) (h : xs[k]? = some v) : atI xs j = some v := by
  show (ixN xs.length j).bind _ = _
  rw [show ixN xs.length j = some k from e]
  exact h
section
variable {C : CI} {X : Cx}
theorem cx_ix (hu : X.A.units + 64 < cLine) : IxR X (rOp2 C X.K fun x y h => opt h (ixEv h x.1 y.1)) := by
  intro value slice pins s σ H v w u1 u2 Q I r1 r2 q hs
  obtain ⟨al, h, x, y, rh, rx, ry, p⟩ := q
  obtain ⟨a, e, p⟩ := opt_some p
  unfold ixEv at e
  cases hd : ddOf h x.1 with
  | some dd =>
    rw [hd] at e
    simp only [Option.bind_eq_some_iff, Option.map_eq_some_iff] at e
    obtain ⟨o, e1, d, rfl, rfl⟩ := e
    obtain ⟨p', q', rfl, dg, _, g1, _⟩ := dd_get rh rx ry hd e1
    obtain ⟨z, rfl, rz⟩ := g1 d rfl
    cases r1
    exact tail_any (dict_typeIs I dg) PySem.F.slot_dict_getitem.lookup (d_getItem (by omega) I dg r2 fun w' s' I' rw' => ⟨z, H, I', rw', p.same rh rz rfl⟩) hs
  | none =>
    rw [hd] at e
    simp only at e
    split at e
    · rename_i j ej
      have hy : w = .int j := by
        rw [ej] at ry
        exact ry
      subst hy
      split at e
      · rename_i z ez
        split at e
        · rename_i hz
          simp only [Option.bind_eq_some_iff, Option.map_eq_some_iff] at e
          obtain ⟨k, e1, c, e2, rfl⟩ := e
          have hv : v = .str ⟨z.toArray⟩ := by
            rw [ez] at rx
            exact rx
          subst hv
          refine ix_str value slice pins s σ H _ _ u1 u2 Q I r1 r2 ⟨_, j, c, rfl, rfl, ?_, ?_, p.same rh rfl rfl⟩ hs
          · rw [strLen]; exact ln_line hz
          · exact ixOf_atI (xs := z) e1 e2
        · cases e
      · simp only [Option.bind_eq_some_iff, Option.map_eq_some_iff] at e
        obtain ⟨xs, e0, k, e1, d, e2, rfl⟩ := e
        obtain ⟨q', vs, rfl, hq, rl⟩ := items_sq rh rx e0
        obtain ⟨z, hz, rz⟩ := rl.get e2
        have hat : atI vs j = some z := ixOf_atI (by rw [← rl.length]; exact e1) hz
        rcases hq with hq | hq
        · exact ix_list value slice pins s σ H _ _ u1 u2 Q I r1 r2 ⟨q', vs, j, z, rfl, rfl, hq, hat, p.same rh rz rfl⟩ hs
        · exact ix_tup value slice pins s σ H _ _ u1 u2 Q I r1 r2 ⟨q', vs, j, z, rfl, rfl, hq, hat, p.same rh rz rfl⟩ hs
    · cases e
/-! ### slices -/
theorem cutIx_eq (n d : Nat) (o : Option Int) : cutIx n d o = HT.sIx n d o := by cases o <;> rfl
theorem rep_cut {K : PySem.W.Frag} {H : Hp} {al : AL} {xs : List D} {vs : List V} (lo hi : Option Int) (r : RepL C K H al xs vs) : RepL C K H al (cut xs lo hi) (cutV vs lo hi) := by
  unfold cut cutV
  rw [cutIx_eq, cutIx_eq, r.length]
  exact (r.drop _).take _
/-- a slice, by values -/
def rS (C : CI) (K : PySem.W.Frag) : V → Option Int → Option Int → Hp → VK → Prop := fun v lo hi H Q =>
  ∃ al h x, RepH C K H al h ∧ Rep C K H al x v ∧ Post C K al H (rF C K) (opt h (slEv h x lo hi)) Q (fun _ _ _ => False)
theorem cx_sl : SlR X (rS C X.K) := by
  intro pins s σ H v u vl vu lo hi sl Q I r1 hs pl pu q
  obtain ⟨al, h, x, rh, rx, p⟩ := q
  obtain ⟨a, e, p⟩ := opt_some p
  have key : (litems h x).map (fun xs => ((.lst (cut xs lo hi), true) : DF)) = some a → ∃ T id, typeLookup (.type T) "__getitem__" = pure (some (.builtin id)) ∧ s.TypeIs u T ∧ wpAny (model X.prog X.w) X.A (getItem u (.ref sl)) (EP X pins σ Q) X.xe s := fun e => by
    obtain ⟨xs, e0, rfl⟩ := Option.map_eq_some_iff.mp e
    obtain ⟨q', vs, rfl, hq, rl⟩ := litems_sq rh rx e0
    exact sl_list pins s σ H _ u vl vu lo hi sl Q I r1 hs pl pu ⟨q', vs, rfl, hq, fun l hl => p.new rh hl (rep_lst rh hl (rep_cut lo hi rl)) fun _ => rep_cut lo hi rl⟩
  cases x with
  | str z =>
    simp only [slEv] at e
    split at e
    · rename_i hz
      cases e
      cases (show v = _ from rx)
      refine sl_str pins s σ H _ u vl vu lo hi sl Q I r1 hs pl pu ⟨_, rfl, ?_, ?_⟩
      · rw [strLen]; exact ln_line hz
      · refine p.same rh ?_ rfl
        show V.str (cutS _ _ _) = V.str _
        unfold cutS cut
        rw [cutIx_eq, cutIx_eq, strLen]
    · cases e
  | tup xs =>
    cases e
    obtain ⟨q', vs, rfl, hq, rl⟩ := rx
    refine sl_tupA pins s σ H _ u vl vu lo hi sl Q I r1 hs pl pu ⟨q', vs, rfl, hq.sq, fun hw => ?_, fun hw l hl => p.new rh hl (rep_tup rh hl (rep_cut lo hi rl)) fun z => nomatch z⟩
    have e1 : cut xs lo hi = xs := by
      unfold cut
      rw [cutIx_eq, cutIx_eq, rl.length, hw.1, hw.2, ← rl.length]
      simp
    refine p.same rh ?_ rfl
    show Rep C X.K H al (.tup (cut xs lo hi)) _
    rw [e1]
    exact ⟨q', vs, rfl, hq, rl⟩
  | _ => exact key e
end
/-! ### tops -/
theorem topL_le {n : Nat} : ∀ {xs : List D}, topL xs ≤ n ↔ ∀ x ∈ xs, x.top ≤ n
  | [] => by simp [topL]
  | x :: xs => by
    rw [topL, Nat.max_le, topL_le (xs := xs)]
    simp
theorem topT_le {n : Nat} : ∀ {xs : List (List Int × D)}, topT xs ≤ n ↔ ∀ x ∈ xs, x.2.top ≤ n
  | [] => by simp [topT]
  | (k, x) :: xs => by
    rw [topT, Nat.max_le, topT_le (xs := xs)]
    simp
theorem topI_le {n : Nat} : ∀ {xs : List (Int × D)}, topI xs ≤ n ↔ ∀ x ∈ xs, x.2.top ≤ n
  | [] => by simp [topI]
  | (k, x) :: xs => by
    rw [topI, Nat.max_le, topI_le (xs := xs)]
    simp
section
variable {C : CI} {K : PySem.W.Frag} {al : AL} {H : Hp} {h : AH}
/-- a registered object written -/
theorem Post.put {n : Nat} {q : Addr} {o : HO} {ob ob' : Ob} {t : Nat} {d : DF} {v : V} {Q : VK} {E : XK} (p : Post C K al H (rF C K) (.ok d (h.put n ob' t)) Q E) (rh : RepH C K H al h) (a : al.r[n]? = some (some q)) (e : h.os[n]? = some ob)
    (new : RepO C K (upd H q o) al q ob') (ht : ob'.top ≤ max h.fl t) (r : Rep C K H al d.1 v) (f : d.2 = false) (no : ∀ vs, o ≠ .tup vs := by intro _ z; cases z) : Q v (upd H q o) :=
  p al (upd H q o) v (Ext.write ⟨n, a⟩) (rh.put a e new ht no) ⟨Rep.ext (Ext.write ⟨n, a⟩).toExt0 _ r, fun z => absurd (f ▸ z) (by decide)⟩
theorem upd_at {q : Addr} {o : HO} : upd H q o q = some o := by simp [upd]
end
/-- a method, by values -/
def rM (C : CI) (K : PySem.W.Frag) (m : ME) : V → List V → Hp → VK → Prop := fun v vs H Q =>
  ∃ al h x ds, RepH C K H al h ∧ Rep C K H al x v ∧ RepL C K H al ds vs ∧ Post C K al H (rF C K) (meEv m h x ds) Q (fun _ _ _ => False)
section
variable {C : CI} {X : Cx}
theorem cm_append : MtM X "list.append" (rM C X.K .append) := by
  intro pins s σ H v vs u us Q I r rs q
  obtain ⟨al, h, x, ds, rh, rx, rd, p⟩ := q
  unfold meEv at p
  split at p
  · rename_i n y _
    split at p
    · rename_i xs e
      split at p
      · rename_i hl
        obtain ⟨q', ws, rfl, hp, rl, ha⟩ := lst_at rh rx e
        obtain ⟨z, zs, rfl, r1, r2⟩ := rd
        cases (show zs = [] from r2)
        refine mt_append pins s σ H _ _ u us Q I r rs ⟨q', ws, z, rfl, rfl, hp, ?_, ?_⟩
        · rw [← rl.length]
          exact Nat.lt_of_lt_of_le hl (ln_line (Nat.le_refl _))
        · refine Post.put p rh ha e ⟨_, upd_at, ?_⟩ ?_ rfl rfl
          · exact (RepL.ext (Ext.write ⟨n, ha⟩).toExt0 _ rl).append (.cons (Rep.ext (Ext.write ⟨n, ha⟩).toExt0 _ r1) rfl)
          · have := rh.top n _ e
            refine topL_le.mpr fun w hw => ?_
            rcases List.mem_append.mp hw with hw | hw
            · exact Nat.le_trans (topL_le.mp this w hw) (Nat.le_max_left _ _)
            · rw [List.mem_singleton.mp hw]; exact Nat.le_max_right _ _
      · exact p.elim
    · exact p.elim
  all_goals first | exact p.elim | (rename_i hm; cases hm)
theorem cm_extend : MtM X "list.extend" (rM C X.K .extend) := by
  intro pins s σ H v vs u us Q I r rs q
  obtain ⟨al, h, x, ds, rh, rx, rd, p⟩ := q
  unfold meEv at p
  split at p
  all_goals first | exact p.elim | (rename_i hm; cases hm; done) | skip
  rename_i n y _
  split at p
  · rename_i xs zs e
    split at p
    · rename_i hl
      obtain ⟨q', ws, rfl, hp, rl, ha⟩ := lst_at rh rx e
      obtain ⟨z, zs', rfl, r1, r2⟩ := rd
      cases (show zs' = [] from r2)
      obtain ⟨q2, ws2, rfl, ⟨hp2, _⟩, rl2⟩ := r1
      refine mt_extend pins s σ H _ _ u us Q I r rs ⟨q', q2, ws, ws2, rfl, rfl, hp, hp2, ?_, ?_⟩
      · rw [← rl.length, ← rl2.length]
        exact ln2 hl
      · refine Post.put p rh ha e ⟨_, upd_at, ?_⟩ ?_ rfl rfl
        · exact (RepL.ext (Ext.write ⟨n, ha⟩).toExt0 _ rl).append (RepL.ext (Ext.write ⟨n, ha⟩).toExt0 _ rl2)
        · have := rh.top n _ e
          refine topL_le.mpr fun w hw => ?_
          rcases List.mem_append.mp hw with hw | hw
          · exact Nat.le_trans (topL_le.mp this w hw) (Nat.le_max_left _ _)
          · exact Nat.le_trans (topL_le.mp (Nat.le_refl _) w hw) (Nat.le_max_right _ _)
    · exact p.elim
  · exact p.elim
theorem cm_pop : MtM X "list.pop" (rM C X.K .pop) := by
  intro pins s σ H v vs u us Q I r rs q
  obtain ⟨al, h, x, ds, rh, rx, rd, p⟩ := q
  unfold meEv at p
  split at p
  all_goals first | exact p.elim | (rename_i hm; cases hm; done) | skip
  rename_i n _
  split at p
  · rename_i xs e
    split at p
    · rename_i y ey
      obtain ⟨q', ws, rfl, hp, rl, ha⟩ := lst_at rh rx e
      cases (show vs = [] from rd)
      obtain ⟨z, ez, rz⟩ := rl.get ey
      refine mt_pop pins s σ H _ _ u us Q I r rs ⟨q', ws, z, rfl, rfl, hp, by rw [← rl.length]; exact ez, ?_⟩
      refine Post.put p rh ha e ⟨_, upd_at, ?_⟩ ?_ rz rfl
      · exact (RepL.ext (Ext.write ⟨n, ha⟩).toExt0 _ rl).dropLast
      · have := rh.top n _ e
        exact topL_le.mpr fun w hw => Nat.le_trans (topL_le.mp this w ((List.dropLast_sublist xs).subset hw)) (Nat.le_max_left _ _)
    · exact p.elim
  · exact p.elim
theorem ixOf_lo {n : Nat} {i : Int} {k : Nat} (e : ixOf n i = some k) : seqIndex? i n = some k ∧ -(n : Int) ≤ i ∧ i < n := by
  obtain ⟨h1, _, h2, h3⟩ := ixN_seq (show ixN n i = some k from e)
  exact ⟨h1, h2, h3⟩
theorem cm_popAt : MtM X "list.pop" (rM C X.K .popAt) := by
  intro pins s σ H v vs u us Q I r rs q
  obtain ⟨al, h, x, ds, rh, rx, rd, p⟩ := q
  unfold meEv at p
  split at p
  all_goals first | exact p.elim | (rename_i hm; cases hm; done) | skip
  rename_i n i _
  split at p
  · rename_i xs e
    split at p
    · rename_i k ek
      split at p
      · rename_i y ey
        obtain ⟨q', ws, rfl, hp, rl, ha⟩ := lst_at rh rx e
        obtain ⟨z, zs', rfl, r1, r2⟩ := rd
        cases (show zs' = [] from r2)
        cases (show z = _ from r1)
        obtain ⟨z, ez, rz⟩ := rl.get ey
        have hl := (I.lstM hp).1
        have hl2 := rl.length
        obtain ⟨e1, e2, e3⟩ := ixOf_lo ek
        have hn := line63
        rw [hl2] at e1 e2 e3
        refine mt_popAt pins s σ H _ _ u us Q I r rs ⟨q', ws, i, k, z, rfl, rfl, hp, by omega, by omega, e1, ez, ?_⟩
        refine Post.put p rh ha e ⟨_, upd_at, ?_⟩ ?_ rz rfl
        · exact (RepL.ext (Ext.write ⟨n, ha⟩).toExt0 _ rl).eraseIdx k
        · have := rh.top n _ e
          exact topL_le.mpr fun w hw => Nat.le_trans (topL_le.mp this w (List.mem_of_mem_eraseIdx hw)) (Nat.le_max_left _ _)
      · exact p.elim
    · exact p.elim
  · exact p.elim
theorem noS_pl : ∀ (k : Nat) (d : D), noS k d = true → plK k d = true ∧ (toPD d).canLay0 = true
  | 0, d, h => by cases d <;> first | exact ⟨rfl, rfl⟩ | cases h
  | k + 1, d, h => by
    have all : ∀ xs : List D, xs.all (noS k) = true → xs.all (plK k) = true ∧ PyData.canLayAll0 (toPDL xs) = true := by
      intro xs
      induction xs with
      | nil => exact fun _ => ⟨rfl, rfl⟩
      | cons x xs ih =>
        intro h
        obtain ⟨h1, h2⟩ := all_cons h
        obtain ⟨a, b⟩ := noS_pl k x h1
        obtain ⟨c, d⟩ := ih h2
        exact ⟨by simp [a, c], by simp [toPDL, PyData.canLayAll0, b, d]⟩
    cases d with
    | tup xs =>
      obtain ⟨a, b⟩ := all xs h
      exact ⟨a, by simpa [toPD, PyData.canLay0] using b⟩
    | lst xs =>
      obtain ⟨a, b⟩ := all xs h
      exact ⟨a, by simpa [toPD, PyData.canLay0] using b⟩
    | _ => first | exact ⟨rfl, rfl⟩ | cases h
theorem cm_index (hu : X.A.units + 65 < cLine) : MtM X "list.index" (rM C X.K .index) := by
  intro pins s σ H v vs u us Q I r rs q
  obtain ⟨al, h, x, ds, rh, rx, rd, p⟩ := q
  unfold meEv at p
  split at p
  all_goals first | exact p.elim | (rename_i hm; cases hm; done) | skip
  rename_i y _
  obtain ⟨a, e, p⟩ := opt_some p
  obtain ⟨xs, e1, e⟩ := Option.bind_eq_some_iff.mp e
  split at e
  · rename_i hp
    rw [Bool.and_eq_true] at hp
    obtain ⟨j, ej, rfl⟩ := Option.map_eq_some_iff.mp e
    obtain ⟨q', ws, rfl, hq, rl⟩ := litems_sq rh rx e1
    obtain ⟨z, zs', rfl, r1, r2⟩ := rd
    cases (show zs' = [] from r2)
    obtain ⟨py, cy⟩ := noS_pl 12 y hp.1
    obtain ⟨pl, cl⟩ := noS_pl 12 (.lst xs) (show xs.all (noS 11) = true from hp.2)
    have pxs : ∀ z ∈ xs, plK 11 z = true := List.all_eq_true.mp pl
    have dy := depth_pd y 12 py
    have dl := depth_pd (.lst xs) 12 pl
    obtain ⟨hj, hj1, hj2⟩ := List.findIdx?_eq_some_iff_getElem.mp ej
    refine mt_indexD hu pins s σ H _ _ u us Q I r rs ⟨q', z, toPD y, toPDL xs, j, toPD xs[j], rfl, rfl, .lst hq (rep_dpL xs 11 pl rl), rep_dp y 12 py r1, ?_, ?_, ?_, ?_, ?_, p.same rh rfl rfl⟩
    · exact Bool.and_eq_true_iff.mpr ⟨cl, decide_eq_true (Nat.le_trans dl (by decide))⟩
    · exact Bool.and_eq_true_iff.mpr ⟨cy, decide_eq_true (Nat.le_trans dy (by decide))⟩
    · rw [toPDL_map, List.getElem?_map, List.getElem?_eq_getElem hj]; rfl
    · rw [← deq_pd _ _ 11 12 (pxs _ (List.getElem_mem hj)) py]; exact hj1
    · intro m z' hm ez
      rw [toPDL_map, List.getElem?_map] at ez
      obtain ⟨w, ew, rfl⟩ := Option.map_eq_some_iff.mp ez
      obtain ⟨hml, rfl⟩ := List.getElem?_eq_some_iff.mp ew
      rw [← deq_pd _ _ 11 12 (pxs _ (List.getElem_mem hml)) py]
      simpa using hj2 m hm
  · cases e
theorem cm_get (hu : X.A.units + 64 < cLine) : MtM X "dict.get" (rM C X.K .get) := by
  intro pins s σ H v vs u us Q I r rs q
  obtain ⟨al, h, x, ds, rh, rx, rd, p⟩ := q
  unfold meEv at p
  split at p
  all_goals first | exact p.elim | (rename_i hm; cases hm; done) | skip
  rename_i k d _
  split at p
  · rename_i dd edd
    obtain ⟨a, e, p⟩ := opt_some p
    obtain ⟨o, e1, rfl⟩ := Option.map_eq_some_iff.mp e
    obtain ⟨z, zs, rfl, r1, r2⟩ := rd
    obtain ⟨w, ws, rfl, r2, r3⟩ := r2
    cases (show ws = [] from r3)
    obtain ⟨p', q', rfl, dg, _, g1, g2⟩ := dd_get rh rx r1 edd e1
    cases r
    obtain ⟨u1, u2, rfl, ru1, ru2⟩ := rs.two
    refine d_get2 (by omega) I dg ru1 ru2 fun w' s' I' rw' => ⟨_, H, I', rw', p.same rh ?_ rfl⟩
    cases o with
    | none =>
      rw [g2 rfl]
      exact r2
    | some z =>
      obtain ⟨v', e', rv'⟩ := g1 z rfl
      rw [e']
      exact rv'
  · exact p.elim
end
end Rw
end

section
set_option Elab.async false
set_option linter.all false
set_option maxRecDepth 100000
set_option maxHeartbeats 4000000
/-! RfE1: expressions' rules. -/
namespace Rw
open PySem PySem.Spec PyProof.Rows L2
section
variable {C : CI} {K : PySem.W.Frag} {W : WX} {σ : L2.St} {H : Hp}
/-- one step of a reading -/
theorem tG.bind {α β γ δ : Type} {rl : Rl α β} {r2 : Rl γ δ} {m : Env → AH → R α} {f : Env → α → AH → R γ} {Q : δ → Hp → Prop} (h : tG C K r2 W (fun env h => (m env h).bind fun a h1 => f env a h1) σ H Q) :
    tG C K rl W m σ H (fun b H1 => ∃ al env h1 a H0, RepH C K H1 al h1 ∧ RepE C K H1 al env σ ∧ rl.r H0 al H1 h1 a b ∧ Post C K al H1 r2 (f env a h1) Q (fun c d H' => W c d σ H')) := by
  obtain ⟨al, env, hh, rh, re, p⟩ := h
  refine ⟨al, env, hh, rh, re, (Post.bind (rl := rl) p).imp (fun v H1 q => ?_) fun _ _ _ q => q⟩
  obtain ⟨al1, h1, x, _, ex, rh1, rx, p1⟩ := q
  exact ⟨al1, env, h1, x, H, rh1, re.ext ex, rx, p1⟩
theorem tG.imp {α β : Type} {rl : Rl α β} {m : Env → AH → R α} {Q Q' : β → Hp → Prop} (h : tG C K rl W m σ H Q) (i : ∀ b H1, Q b H1 → Q' b H1) : tG C K rl W m σ H Q' := by
  obtain ⟨al, env, hh, rh, re, p⟩ := h
  exact ⟨al, env, hh, rh, re, p.imp i fun _ _ _ q => q⟩
theorem tG.congr {α β : Type} {rl : Rl α β} {m m' : Env → AH → R α} {Q : β → Hp → Prop} (h : tG C K rl W m σ H Q) (e : ∀ env h, m env h = m' env h) : tG C K rl W m' σ H Q := by
  obtain ⟨al, env, hh, rh, re, p⟩ := h
  exact ⟨al, env, hh, rh, re, by rw [← e]; exact p⟩
/-- a rule from a reading: the start -/
theorem tG.mk {α β : Type} {rl : Rl α β} {al : AL} {env : Env} {h : AH} {m : Env → AH → R α} {Q : β → Hp → Prop} {r : R α} (rh : RepH C K H al h) (re : RepE C K H al env σ) (p : Post C K al H rl r Q (fun c d H' => W c d σ H')) (e : r = m env h) : tG C K rl W m σ H Q := by
  subst e
  exact ⟨al, env, h, rh, re, p⟩
theorem Post.opt {α β : Type} {rl : Rl α β} {al : AL} {h : AH} {o : Option α} {Q : β → Hp → Prop} {E : XK} (p : Post C K al H rl (opt h o) Q E) : ∃ a, o = some a ∧ Post C K al H rl (.ok a h) Q E := opt_some p
theorem Post.q {α : Type} {al : AL} {h : AH} {a : α} {Q : α → Hp → Prop} {E : XK} (p : Post C K al H (rQ α) (.ok a h) Q E) (rh : RepH C K H al h) : Q a H := p al H a (Ext.refl _ _) rh rfl
end
/-! ### where no star stands -/
def noStar : Expr → Bool
  | .Starred _ _ => false
  | _ => true
theorem star1 {e : Expr} {es : List Expr} {env : PySem.Env} (h : noStar e = true) : starEach (e :: es) env = (false, eval e env) :: starEach es env := by
  cases e <;> first | rfl | cases h
theorem star_any {pos : Pos} {env : PySem.Env} : ∀ {es : List Expr}, es.all noStar = true → (backTo pos (starEach es env)).any (·.1) = false
  | [], _ => rfl
  | e :: es, h => by
    obtain ⟨h1, h2⟩ := all_cons h
    rw [star1 h1]
    have ih := star_any (pos := pos) (env := env) h2
    unfold backTo at ih ⊢
    simpa using ih
theorem star_all {pos : Pos} {env : PySem.Env} : ∀ {es : List Expr}, es.all noStar = true → (backTo pos (starEach es env)).all (fun x => !x.1) = true
  | [], _ => rfl
  | e :: es, h => by
    obtain ⟨h1, h2⟩ := all_cons h
    rw [star1 h1]
    have ih := star_all (pos := pos) (env := env) h2
    unfold backTo at ih ⊢
    simpa using ih
theorem star_len {env : PySem.Env} : ∀ {es : List Expr}, (starEach es env).length = es.length
  | [] => rfl
  | e :: es => by
    have ih := star_len (env := env) (es := es)
    cases e <;> simp [starEach, ih]
theorem few_of {pos : Pos} {env : PySem.Env} {es : List Expr} (h : es.all noStar = true) (hl : es.length < 30) :
    ((backTo pos (starEach es env)).all (fun x => !x.1) && (backToKw pos (keywordEach [] env)).all (fun x => x.1.isSome)
      && decide (es.length + ([] : List Keyword).length + (if ([] : List Keyword).isEmpty then 0 else 1) < 30)) = true := by
  rw [star_all h]
  simpa [backToKw, keywordEach] using hl
def noCall : Expr → Bool
  | .Call _ [] _ _ => false
  | _ => true
theorem base_of {o : Expr} {m : Str} {env : PySem.Env} (h : noCall o = true) : attributeBase o m env (eval o env) = eval o env := by
  cases o with
  | Call f as kw p =>
    cases as with
    | nil => cases h
    | cons a l => cases f <;> rfl
  | _ => rfl
/-- a test that is its value's truth -/
def plainTest : Expr → Bool
  | .UnaryOp .Not _ _ | .BoolOp _ _ _ | .IfExp _ _ _ _ | .Compare _ _ _ _ => false
  | _ => true
theorem test_of {e : Expr} {env : PySem.Env} (h : plainTest e = true) : ∀ whole, isTrue e env whole = (do let v ← whole; standAt e.pos; holding [v] (truthy v)) := by
  intro whole
  cases e with
  | UnaryOp op x p => cases op <;> first | rfl | cases h
  | _ => first | rfl | cases h
def plainIx : Expr → Bool
  | .Slice _ _ _ _ => false
  | _ => true
theorem ix_of {e : Expr} (h : plainIx e = true) : PlainIx e := by
  intro o i
  cases e <;> first | rfl | cases h
theorem R.bind_ok {α β : Type} {r : R α} {f : α → AH → R β} {b : β} {h : AH} (e : r.bind f = .ok b h) : ∃ a h1, r = .ok a h1 ∧ f a h1 = .ok b h := by
  cases r with
  | ok a h1 => exact ⟨a, h1, rfl, e⟩
  | _ => cases e
section
variable {C : CI} {X : Cx} {W : WX} {a b c : Expr} {ma mb mc : Env → AH → R DF} {pos : Pos}
theorem se_bin {op : BOp} (ha : PE X a (tE C X.K W ma)) (hb : PE X b (tE C X.K W mb)) :
    PE X (.BinOp a (opOf op) b pos) (tE C X.K W fun env h => (ma env h).bind fun x h1 => (mb env h1).bind fun y h2 => opt h2 (binEv op h2 x.1 y.1)) :=
  (pe_op (ob_all op) ha hb).imp fun σ H Q h => lift2 (fun x y h => nox_opt _ _) h
theorem se_neg (ha : PE X a (tE C X.K W ma)) : PE X (.UnaryOp .USub a pos) (tE C X.K W fun env h => (ma env h).bind fun x h1 => (match x.1 with | .int i => .ok (.int (-i), false) h1 | _ => .bad)) := by
  refine (pe_un un_neg ha).imp fun σ H Q h => (tG.bind (rl := rF C X.K) h).imp fun v H1 q => ?_
  obtain ⟨al, env, h1, x, H0, rh, re, rx, p⟩ := q
  cases e : x.1 with
  | int i =>
    rw [e] at p
    have hv : v = .int i := by
      have := rx.1
      rw [e] at this
      exact this
    exact ⟨i, hv, p.same rh rfl rfl⟩
  | _ => rw [e] at p; exact p.elim
theorem cm_map {op : COp} {h : AH} {x y : D} : opt h ((cmpEv op h x y).map fun k => ((.bl k, false) : DF)) = (match cmpEv op h x y with | some k => .ok (.bl k, false) h | none => .bad) := by
  cases cmpEv op h x y <;> rfl
theorem se_cmp {op : COp} (hu : X.A.units + 64 < cLine) (ha : PE X a (tE C X.K W ma)) (hb : PE X b (tE C X.K W mb)) (hm : behindInMarks (cmOf op) b = false) :
    PE X (.Compare a [cmOf op] [b] pos) (tE C X.K W fun env h => (ma env h).bind fun x h1 => (mb env h1).bind fun y h2 => (match cmpEv op h2 x.1 y.1 with | some k => .ok (.bl k, false) h2 | none => .bad)) :=
  (pe_cmpR (cm_all hu op) ha hb hm).imp fun σ H Q h => lift2 (fun x y h => nox_opt _ _) (h.congr fun env h => by simp only [cm_map])
/-- the truth of what the evaluator finds -/
theorem truR_bl {m : Env → AH → R DF} {f : Env → AH → R Bool} (e : ∀ env h, m env h = (f env h).bind fun k h1 => .ok (.bl k, false) h1) (env : Env) (h : AH) : truR m env h = f env h := by
  unfold truR
  rw [e]
  cases f env h <;> rfl
theorem st_val (ha : PE X a (tE C X.K W ma)) (he : plainTest a = true) : PT X a (tT C X.K W (truR ma)) :=
  (pt_truth ha (test_of he)).imp fun σ H Q h => (tG.bind (rl := rF C X.K) h).imp fun v H1 q => by
    obtain ⟨al, env, h1, x, H0, rh, re, rx, p⟩ := q
    obtain ⟨k, e, p⟩ := p.opt
    exact ⟨k, tru_of (X := X) rh rx.1 e, p.q rh⟩
/-- .. where it is a bool -/
theorem tT.test {m : Env → AH → R DF} {σ : L2.St} {H : Hp} {Q : Bool → Hp → Prop} (hm : ∀ env h d h1, m env h = .ok d h1 → ∃ k, d.1 = .bl k) (h : tT C X.K W (truR m) σ H Q) : tE C X.K W m σ H (fun x H' => ∃ k, x = .bl k ∧ Q k H') := by
  obtain ⟨al, env, hh, rh, re, p⟩ := h
  refine ⟨al, env, hh, rh, re, ?_⟩
  unfold truR at p
  cases e : m env hh with
  | ok d h1 =>
    rw [e] at p
    obtain ⟨k, hk⟩ := hm env hh d h1 e
    simp only [R.bind, hk, tru] at p
    intro al' H' b ex rh' q
    have q1 := q.1
    rw [hk] at q1
    exact ⟨k, q1, p al' H' k ex rh' rfl⟩
  | exc x h => rw [e] at p; exact p
  | bad => rw [e] at p; exact p
theorem st_cmp {op : COp} (hu : X.A.units + 64 < cLine) (ha : PE X a (tE C X.K W ma)) (hb : PE X b (tE C X.K W mb)) (hm : behindInMarks (cmOf op) b = false) :
    PT X (.Compare a [cmOf op] [b] pos) (tT C X.K W (truR fun env h => (ma env h).bind fun x h1 => (mb env h1).bind fun y h2 => (match cmpEv op h2 x.1 y.1 with | some k => .ok (.bl k, false) h2 | none => .bad))) := by
  refine (pt_cmpR (cm_all (C := C) hu op) ha hb hm).imp fun σ H Q h => ?_
  refine lift2 (f := fun x y h => opt h ((cmpEv op h x.1 y.1).map fun k => ((.bl k, false) : DF))) (fun x y h => nox_opt _ _) ((tT.test (fun env h d h1 e => ?_) h).congr fun env h => by simp only [cm_map])
  obtain ⟨x, h2, e1, e⟩ := R.bind_ok e
  obtain ⟨y, h3, e2, e⟩ := R.bind_ok e
  split at e
  · cases e; exact ⟨_, rfl⟩
  · cases e
/-! ### chains -/
theorem last_mark (op op' : CmpOp) (b c : Expr) : lastMarks [op, op'] [b, c] = behindInMarks op' c := rfl
abbrev chainEv (op op' : COp) (ma mb mc : Env → AH → R DF) (env : Env) (h : AH) : R DF :=
  (ma env h).bind fun x h1 => (mb env h1).bind fun y h2 => (match cmpEv op h2 x.1 y.1 with
    | some true => (mc env h2).bind fun z h3 => (match cmpEv op' h3 y.1 z.1 with
      | some k => .ok (.bl k, false) h3
      | none => .bad)
    | some false => .ok (.bl false, false) h2
    | none => .bad)
theorem lift_chain {op op' : COp} {σ : L2.St} {H : Hp} {Q : VK} (h : tE C X.K W (chainEv op op' ma mb mc) σ H Q) :
    tChain (rOp2 C X.K fun x y h => opt h ((cmpEv op h x.1 y.1).map fun k => ((.bl k, false) : DF))) (rOp2 C X.K fun x y h => opt h ((cmpEv op' h x.1 y.1).map fun k => ((.bl k, false) : DF))) (tE C X.K W ma) (tE C X.K W mb) (tE C X.K W mc) σ H Q := by
  obtain ⟨al, env, hh, rh, re, p⟩ := h
  refine ⟨al, env, hh, rh, re, (Post.bind (rl := rF C X.K) p).imp (fun v H1 q => ?_) fun _ _ _ q => q⟩
  obtain ⟨al1, h1, x, _, ex, rh1, rx, p1⟩ := q
  refine ⟨al1, env, h1, rh1, re.ext ex, (Post.bind (rl := rF C X.K) p1).imp (fun w H2 q => ?_) fun _ _ _ q => q⟩
  obtain ⟨al2, h2, y, _, ex2, rh2, ry, p2⟩ := q
  refine ⟨al2, h2, x, y, rh2, Rep.ext ex2 _ rx.1, ry.1, ?_⟩
  show Post _ _ _ _ _ (opt h2 ((cmpEv op h2 x.1 y.1).map _)) _ _
  split at p2
  · rename_i e
    rw [e]
    intro al' H' b ex3 rh' q
    refine ⟨true, q.1, ?_⟩
    rw [if_pos rfl]
    refine ⟨al', env, h2, rh', ((re.ext ex.toExt0).ext ex2.toExt0).ext ex3.toExt0, (Post.bind (rl := rF C X.K) (Post.start ex3 p2)).imp (fun w H3 q => ?_) fun _ _ _ q => q⟩
    obtain ⟨al3, h3, z, _, ex4, rh3, rz, p3⟩ := q
    refine ⟨al3, h3, y, z, rh3, Rep.ext ex4.toExt0 _ (Rep.ext ex3.toExt0 _ ry.1), rz.1, ?_⟩
    show Post _ _ _ _ _ (opt h3 ((cmpEv op' h3 y.1 z.1).map _)) _ _
    cases e3 : cmpEv op' h3 y.1 z.1 with
    | some k => rw [e3] at p3; exact p3.dropE fun _ _ e => nomatch e
    | none => rw [e3] at p3; exact p3.elim
  · rename_i e
    rw [e]
    intro al' H' b ex3 rh' q
    refine ⟨false, q.1, ?_⟩
    rw [if_neg Bool.false_ne_true]
    exact p2 al' H' _ ex3 rh' ⟨rfl, fun z => by cases z⟩
  · exact p2.elim
theorem se_chain {op op' : COp} (hu : X.A.units + 64 < cLine) (ha : PE X a (tE C X.K W ma)) (hb : PE X b (tE C X.K W mb)) (hc : PE X c (tE C X.K W mc)) (hm : behindInMarks (cmOf op') c = false) :
    PE X (.Compare a [cmOf op, cmOf op'] [b, c] pos) (tE C X.K W (chainEv op op' ma mb mc)) :=
  (pe_chain (cm_all hu op) (cm_all hu op') ha hb hc hm).imp fun σ H Q h => lift_chain h
theorem st_chain {op op' : COp} (hu : X.A.units + 64 < cLine) (ha : PE X a (tE C X.K W ma)) (hb : PE X b (tE C X.K W mb)) (hc : PE X c (tE C X.K W mc)) (hm : behindInMarks (cmOf op') c = false) :
    PT X (.Compare a [cmOf op, cmOf op'] [b, c] pos) (tT C X.K W (truR (chainEv op op' ma mb mc))) := by
  refine (pt_chain (cm_all (C := C) hu op) (cm_all (C := C) hu op') ha hb hc hm).imp fun σ H Q h => lift_chain (tT.test (fun env h d h1 e => ?_) h)
  obtain ⟨x, h2, e1, e⟩ := R.bind_ok e
  obtain ⟨y, h3, e2, e⟩ := R.bind_ok e
  split at e
  · obtain ⟨z, h4, e3, e⟩ := R.bind_ok e
    split at e
    · cases e; exact ⟨_, rfl⟩
    · cases e
  · cases e; exact ⟨_, rfl⟩
  · cases e
/-! ### and, or, not, if -/
theorem se_not (ha : PE X a (tE C X.K W ma)) : PE X (.UnaryOp .Not a pos) (tE C X.K W fun env h => (ma env h).bind fun x h1 => (match tru h1 x.1 with | some b => .ok (.bl (!b), false) h1 | none => .bad)) := by
  refine (pe_notT ha).imp fun σ H Q h => (tG.bind (rl := rF C X.K) h).imp fun v H1 q => ?_
  obtain ⟨al, env, h1, x, H0, rh, re, rx, p⟩ := q
  split at p
  · rename_i k e
    exact ⟨k, tru_of (X := X) rh rx.1 e, p.same rh rfl rfl⟩
  · exact p.elim
theorem st_not (ha : PT X a (tT C X.K W (truR ma))) : PT X (.UnaryOp .Not a pos) (tT C X.K W (truR fun env h => (ma env h).bind fun x h1 => (match tru h1 x.1 with | some b => .ok (.bl (!b), false) h1 | none => .bad))) := by
  refine (pt_not ha).imp fun σ H Q h => ?_
  obtain ⟨al, env, hh, rh, re, p⟩ := h
  refine ⟨al, env, hh, rh, re, ?_⟩
  unfold truR at p ⊢
  dsimp only at p
  cases e : ma env hh with
  | ok x h1 =>
    rw [e] at p
    simp only [R.bind] at p ⊢
    cases e1 : tru h1 x.1 with
    | some k =>
      rw [e1] at p
      intro al' H' b ex rh' q
      have q' : k = b := q
      subst q'
      exact p al' H' (!k) ex rh' rfl
    | none => rw [e1] at p; exact p
  | exc x h => rw [e] at p; exact p
  | bad => rw [e] at p; exact p
theorem lift_ife {mc ma mb : Env → AH → R DF} {rl : Rl DF V} {σ : L2.St} {H : Hp} {Q : VK} (h : tE C X.K W (fun env h => (mc env h).bind fun x h1 => (match tru h1 x.1 with | some true => ma env h1 | some false => mb env h1 | none => .bad)) σ H Q) :
    tT C X.K W (truR mc) σ H fun k H1 => if k = true then tE C X.K W ma σ H1 Q else tE C X.K W mb σ H1 Q := by
  obtain ⟨al, env, hh, rh, re, p⟩ := h
  refine ⟨al, env, hh, rh, re, ?_⟩
  unfold truR
  dsimp only at p
  cases e : mc env hh with
  | ok x h1 =>
    rw [e] at p
    simp only [R.bind] at p ⊢
    split at p
    · rename_i e1
      rw [e1]
      intro al' H' b ex rh' q
      have q' : true = b := q
      subst q'
      exact ⟨al', env, h1, rh', re.ext ex, Post.start ex p⟩
    · rename_i e1
      rw [e1]
      intro al' H' b ex rh' q
      have q' : false = b := q
      subst q'
      exact ⟨al', env, h1, rh', re.ext ex, Post.start ex p⟩
    · exact p.elim
  | exc x h => rw [e] at p; exact p
  | bad => rw [e] at p; exact p
theorem se_ife (hc : PT X c (tT C X.K W (truR mc))) (ha : PE X a (tE C X.K W ma)) (hb : PE X b (tE C X.K W mb)) :
    PE X (.IfExp c a b pos) (tE C X.K W fun env h => (mc env h).bind fun x h1 => (match tru h1 x.1 with | some true => ma env h1 | some false => mb env h1 | none => .bad)) :=
  (pe_ifExp hc ha hb).imp fun σ H Q h => lift_ife (rl := rF C X.K) h
theorem pt_ifExp {tc ta tb : TT} (hc : PT X c tc) (ha : PT X a ta) (hb : PT X b tb) : PT X (.IfExp c a b pos) (fun σ H Q => tc σ H fun k H1 => if k = true then ta σ H1 Q else tb σ H1 Q) := by
  refine ⟨fun pins s σ H Q I h => ?_⟩
  show wpAny _ _ (do if ← isTrue c X.env (eval c X.env) then isTrue a X.env (eval a X.env) else isTrue b X.env (eval b X.env)) _ _ _
  refine wpAny_bind (thn (hc.run pins s σ H _ I h) fun k s1 ⟨H1, I1, q1⟩ => ?_)
  cases k with
  | true => exact ha.run pins s1 σ H1 Q I1 q1
  | false => exact hb.run pins s1 σ H1 Q I1 q1
theorem st_ife (hc : PT X c (tT C X.K W (truR mc))) (ha : PT X a (tT C X.K W (truR ma))) (hb : PT X b (tT C X.K W (truR mb))) :
    PT X (.IfExp c a b pos) (tT C X.K W (truR fun env h => (mc env h).bind fun x h1 => (match tru h1 x.1 with | some true => ma env h1 | some false => mb env h1 | none => .bad))) := by
  refine (pt_ifExp hc ha hb).imp fun σ H Q h => ?_
  obtain ⟨al, env, hh, rh, re, p⟩ := h
  refine ⟨al, env, hh, rh, re, ?_⟩
  unfold truR at p ⊢
  dsimp only at p
  cases e : mc env hh with
  | ok x h1 =>
    rw [e] at p
    simp only [R.bind] at p ⊢
    split at p
    · rename_i d h2 e1
      split at e1
      · rename_i e2
        rw [e2]
        intro al' H' b ex rh' q
        have q' : true = b := q
        subst q'
        refine ⟨al', env, h1, rh', re.ext ex, Post.start ex ?_⟩
        dsimp only
        rw [e1]
        exact p
      · rename_i e2
        rw [e2]
        intro al' H' b ex rh' q
        have q' : false = b := q
        subst q'
        refine ⟨al', env, h1, rh', re.ext ex, Post.start ex ?_⟩
        dsimp only
        rw [e1]
        exact p
      · cases e1
    · rename_i y h2 e1
      split at e1
      · rename_i e2
        rw [e2]
        intro al' H' b ex rh' q
        have q' : true = b := q
        subst q'
        refine ⟨al', env, h1, rh', re.ext ex, Post.start ex ?_⟩
        dsimp only
        rw [e1]
        exact p
      · rename_i e2
        rw [e2]
        intro al' H' b ex rh' q
        have q' : false = b := q
        subst q'
        refine ⟨al', env, h1, rh', re.ext ex, Post.start ex ?_⟩
        dsimp only
        rw [e1]
        exact p
      · cases e1
    · exact p.elim
  | exc x h => rw [e] at p; exact p
  | bad => rw [e] at p; exact p
/-! ### lists of expressions -/
abbrev LPE (C : CI) (X : Cx) (W : WX) (r : Ev) : List E → List Expr → Prop := Paired fun e a => PE X a (tE C X.K W (r.e e))
abbrev LPT (C : CI) (X : Cx) (W : WX) (r : Ev) : List E → List Expr → Prop := Paired fun e a => PT X a (tT C X.K W (truR (r.e e)))
theorem sa_all {r : Ev} : ∀ {es : List E} {as : List Expr}, LPE C X W r es as → as.all noStar = true → PA X as (tA C X.K W (evL r es))
  | _, _, .nil, _ => sa_nil
  | _, _, .cons h t, hs => by
    obtain ⟨h1, h2⟩ := all_cons hs
    exact sa_cons h (sa_all t h2) (star1 h1)
theorem se_and {r : Ev} : ∀ {es : List E} {as : List Expr}, LPE C X W r es as → PE X (.BoolOp .And as pos) (tE C X.K W (andEv r es))
  | _, _, .nil => ⟨fun pins s σ H Q I h => by obtain ⟨al, env, hh, rh, re, p⟩ := h; exact p.elim⟩
  | _, _, .cons h .nil => (pe_one h).imp fun σ H Q q => q
  | e :: e2 :: es, _, .cons h (.cons h2 t) => by
    refine (pe_andT h (se_and (.cons h2 t))).imp fun σ H Q q => ?_
    refine (tG.bind (rl := rF C X.K) (f := fun env d h1 => match tru h1 d.1 with | some true => andEv r (e2 :: es) env h1 | some false => .ok (d.1, false) h1 | none => .bad) q).imp fun v H1 q => ?_
    obtain ⟨al, env, h1, x, H0, rh, re, rx, p⟩ := q
    split at p
    · rename_i e
      refine ⟨true, tru_of (X := X) rh rx.1 e, ?_⟩
      rw [if_pos rfl]
      exact ⟨al, env, h1, rh, re, p⟩
    · rename_i e
      refine ⟨false, tru_of (X := X) rh rx.1 e, ?_⟩
      rw [if_neg Bool.false_ne_true]
      exact p.same rh rx.1 rfl
    · exact p.elim
theorem se_or {r : Ev} : ∀ {es : List E} {as : List Expr}, LPE C X W r es as → PE X (.BoolOp .Or as pos) (tE C X.K W (orEv r es))
  | _, _, .nil => ⟨fun pins s σ H Q I h => by obtain ⟨al, env, hh, rh, re, p⟩ := h; exact p.elim⟩
  | _, _, .cons h .nil => (pe_one h).imp fun σ H Q q => q
  | e :: e2 :: es, _, .cons h (.cons h2 t) => by
    refine (pe_orT h (se_or (.cons h2 t))).imp fun σ H Q q => ?_
    refine (tG.bind (rl := rF C X.K) (f := fun env d h1 => match tru h1 d.1 with | some true => .ok (d.1, false) h1 | some false => orEv r (e2 :: es) env h1 | none => .bad) q).imp fun v H1 q => ?_
    obtain ⟨al, env, h1, x, H0, rh, re, rx, p⟩ := q
    split at p
    · rename_i e
      refine ⟨true, tru_of (X := X) rh rx.1 e, ?_⟩
      rw [if_pos rfl]
      exact p.same rh rx.1 rfl
    · rename_i e
      refine ⟨false, tru_of (X := X) rh rx.1 e, ?_⟩
      rw [if_neg Bool.false_ne_true]
      exact ⟨al, env, h1, rh, re, p⟩
    · exact p.elim
theorem sw_and {r : Ev} : ∀ {es : List E} {as : List Expr}, LPT C X W r es as → PW X (.BoolOp .And as pos) (tT C X.K W (truR (andEv r es)))
  | _, _, .nil => ⟨fun wh pins s σ H Q I h => by obtain ⟨al, env, hh, rh, re, p⟩ := h; exact p.elim⟩
  | _, _, .cons h .nil => ⟨fun wh pins s σ H Q I q => (pw_and1 h).run wh pins s σ H Q I q⟩
  | e :: e2 :: es, _, .cons h (.cons h2 t) => ⟨fun wh pins s σ H Q I q => (pw_and h (sw_and (.cons h2 t))).run wh pins s σ H Q I (by
    obtain ⟨al, env, hh, rh, re, p⟩ := q
    refine ⟨al, env, hh, rh, re, ?_⟩
    unfold truR at p ⊢
    simp only [andEv] at p
    cases e : r.e e env hh with
    | ok x h1 =>
      rw [e] at p
      simp only [R.bind] at p ⊢
      cases e1 : tru h1 x.1 with
      | some k =>
        rw [e1] at p
        intro al' H' b ex rh' q
        have q' : k = b := q
        subst q'
        cases k with
        | true =>
          rw [if_pos rfl]
          exact ⟨al', env, h1, rh', re.ext ex, Post.start ex p⟩
        | false =>
          rw [if_neg Bool.false_ne_true]
          simp only [e1] at p
          exact p al' H' false ex rh' rfl
      | none => rw [e1] at p; exact p
    | exc x h => rw [e] at p; exact p
    | bad => rw [e] at p; exact p)⟩
theorem sw_or {r : Ev} : ∀ {es : List E} {as : List Expr}, LPT C X W r es as → PW X (.BoolOp .Or as pos) (tT C X.K W (truR (orEv r es)))
  | _, _, .nil => ⟨fun wh pins s σ H Q I h => by obtain ⟨al, env, hh, rh, re, p⟩ := h; exact p.elim⟩
  | _, _, .cons h .nil => ⟨fun wh pins s σ H Q I q => (pw_or1 h).run wh pins s σ H Q I q⟩
  | e :: e2 :: es, _, .cons h (.cons h2 t) => ⟨fun wh pins s σ H Q I q => (pw_or h (sw_or (.cons h2 t))).run wh pins s σ H Q I (by
    obtain ⟨al, env, hh, rh, re, p⟩ := q
    refine ⟨al, env, hh, rh, re, ?_⟩
    unfold truR at p ⊢
    simp only [orEv] at p
    cases e : r.e e env hh with
    | ok x h1 =>
      rw [e] at p
      simp only [R.bind] at p ⊢
      cases e1 : tru h1 x.1 with
      | some k =>
        rw [e1] at p
        intro al' H' b ex rh' q
        have q' : k = b := q
        subst q'
        cases k with
        | true =>
          rw [if_pos rfl]
          simp only [e1] at p
          exact p al' H' true ex rh' rfl
        | false =>
          rw [if_neg Bool.false_ne_true]
          exact ⟨al', env, h1, rh', re.ext ex, Post.start ex p⟩
      | none => rw [e1] at p; exact p
    | exc x h => rw [e] at p; exact p
    | bad => rw [e] at p; exact p)⟩
end
end Rw
end

section
set_option Elab.async false
set_option linter.all false
set_option maxRecDepth 100000
set_option maxHeartbeats 4000000
/-! RfE2: guards; subscripts, slices, calls of built-ins and of methods. -/
namespace Rw
open PySem PySem.Spec PyProof.Rows L2
/-! ### guards -/
def AL.gd (al : AL) (p : Addr) : AL := ⟨al.r, p :: al.g⟩
/-- a later state, where D may have been written -/
structure ExtD (D : Addr) (al : AL) (H : Hp) (al' : AL) (H' : Hp) : Prop extends Ext0 al H al' H' where
  ge : al'.g = al.g
  gk : ∀ b o, b ∈ al.g → b ≠ D → H b = some o → ¬ Rg al b → H' b = some o
section
variable {C : CI} {K : PySem.W.Frag} {al al' al'' : AL} {H H' H'' : Hp} {h : AH} {p D : Addr} {o : HO}
theorem ExtD.refl : ExtD D al H al H where
  toExt0 := (Ext.refl al H).toExt0
  ge := rfl
  gk := fun _ _ _ _ e _ => e
theorem ExtD.then (x : ExtD D al H al' H') (y : Ext al' H' al'' H'') : ExtD D al H al'' H'' where
  toExt0 := x.toExt0.trans y.toExt0
  ge := y.ge.trans x.ge
  gk := fun b o h hD e n => y.gk b o (x.ge ▸ h) (x.gk b o h hD e n) (x.notRg e n)
theorem Ext0.gput (hp : p ∈ al.g) : Ext0 al H al (upd H p o) where
  len := Nat.le_refl _
  old := fun n q e => .inl ⟨lt_of_at e, e⟩
  kp := fun b u e n => by
    have hb : b ≠ p := fun z => by subst z; exact n (.inr hp)
    rw [upd_ne hb]; exact e
  gd := fun _ h => .inl h
  trk := fun b u e z => by
    by_cases q : b = p
    · rw [q, upd_same] at z; cases z
    · rw [upd_ne q, e] at z; cases z
theorem ExtD.put (x : ExtD D al H al' H') (hD : D ∈ al'.g) : ExtD D al H al' (upd H' D o) where
  toExt0 := x.toExt0.trans (Ext0.gput hD)
  ge := x.ge
  gk := fun b u h hb e n => by rw [upd_ne hb]; exact x.gk b u h hb e n
theorem Ext0.guard (e : H p = none) : Ext0 al H (al.gd p) (upd H p o) where
  len := Nat.le_refl _
  old := fun n q e => .inl ⟨lt_of_at e, e⟩
  kp := fun b u z _ => by rw [upd_ne (ne_of_none z e)]; exact z
  gd := fun q hq => by
    rcases List.mem_cons.mp hq with rfl | hq
    · exact .inr e
    · exact .inl hq
  trk := fun b u z q => by rw [upd_ne (ne_of_none z e), z] at q; cases q
theorem RepH.guard (r : RepH C K H al h) (e : H p = none) (no : ∀ vs, o ≠ .tup vs := by intro _ z; cases z) : RepH C K (upd H p o) (al.gd p) h where
  len := r.len
  inj := r.inj
  dis := fun q hq z => by
    rcases List.mem_cons.mp hq with rfl | hq
    · exact r.trk q (.inl z) e
    · exact r.dis q hq z
  trk := fun q a z => by
    by_cases hq : q = p
    · rw [hq, upd_same] at z; cases z
    · rw [upd_ne hq] at z
      rcases a with a | a
      · exact r.trk q (.inl a) z
      · rcases List.mem_cons.mp a with a | a
        · exact hq a
        · exact r.trk q (.inr a) z
  nt := fun q a vs z => by
    by_cases hq : q = p
    · rw [hq, upd_same] at z; exact no vs (Option.some.inj z)
    · rw [upd_ne hq] at z
      rcases a with a | a
      · exact r.nt q (.inl a) vs z
      · rcases List.mem_cons.mp a with a | a
        · exact hq a
        · exact r.nt q (.inr a) vs z
  ob := fun n ob q => by
    rcases r.ob n ob q with h1 | ⟨b, h1, h2⟩
    · exact .inl h1
    · have hb : b ≠ p := fun z => r.trk b (.inl ⟨n, h1⟩) (z ▸ e)
      exact .inr ⟨b, h1, h2.ext (Ext0.guard e) (upd_ne hb)⟩
  top := r.top
theorem RepH.gput (r : RepH C K H al h) (hp : p ∈ al.g) (no : ∀ vs, o ≠ .tup vs := by intro _ z; cases z) : RepH C K (upd H p o) al h where
  len := r.len
  inj := r.inj
  dis := r.dis
  trk := fun q a z => by
    by_cases hq : q = p
    · rw [hq, upd_same] at z; cases z
    · rw [upd_ne hq] at z; exact r.trk q a z
  nt := fun q a vs z => by
    by_cases hq : q = p
    · rw [hq, upd_same] at z; exact no vs (Option.some.inj z)
    · rw [upd_ne hq] at z; exact r.nt q a vs z
  ob := fun n ob q => by
    rcases r.ob n ob q with h1 | ⟨b, h1, h2⟩
    · exact .inl h1
    · have hb : b ≠ p := fun z => r.dis p hp ⟨n, z ▸ h1⟩
      exact .inr ⟨b, h1, h2.ext (Ext0.gput hp) (upd_ne hb)⟩
  top := r.top
/-- the guard goes -/
theorem Ext0.drop {g : List Addr} (e : al.g = p :: g) : Ext0 al H ⟨al.r, g⟩ H where
  len := Nat.le_refl _
  old := fun n q z => .inl ⟨lt_of_at z, z⟩
  kp := fun _ _ z _ => z
  gd := fun q hq => .inl (by rw [e]; exact List.mem_cons_of_mem _ hq)
  trk := fun b u z q => by rw [z] at q; cases q
theorem RepH.drop {g : List Addr} (r : RepH C K H al h) (e : al.g = p :: g) : RepH C K H ⟨al.r, g⟩ h where
  len := r.len
  inj := r.inj
  dis := fun q hq z => r.dis q (by rw [e]; exact List.mem_cons_of_mem _ hq) z
  trk := fun q a z => r.trk q (by
    rcases a with a | a
    · exact .inl a
    · exact .inr (by rw [e]; exact List.mem_cons_of_mem _ a)) z
  nt := fun q a => r.nt q (by
    rcases a with a | a
    · exact .inl a
    · exact .inr (by rw [e]; exact List.mem_cons_of_mem _ a))
  ob := fun n ob q => by
    rcases r.ob n ob q with h1 | ⟨b, h1, h2⟩
    · exact .inl h1
    · exact .inr ⟨b, h1, h2.ext (Ext0.drop e) rfl⟩
  top := r.top
theorem RepH.nReg {g : List Addr} (r : RepH C K H al h) (e : al.g = p :: g) (hg : p ∉ g) : ¬ At ⟨al.r, g⟩ p := by
  rintro (z | z)
  · exact r.dis p (by rw [e]; exact List.mem_cons_self ..) z
  · exact hg z
/-- what was done under a guard, from the start -/
theorem ExtD.out (e : H D = none) (x : ExtD D (al.gd D) (upd H D o) al' H') (t : RepH C K H al h) : Ext al H ⟨al'.r, al.g⟩ H' where
  len := x.len
  old := fun n q z => by
    rcases x.old n q z with z | ⟨z, hn⟩
    · exact .inl z
    · refine .inr ⟨z, ?_⟩
      by_cases hq : q = D
      · rw [hq]; exact e
      · rw [upd_ne hq] at hn; exact hn
  kp := fun b u z n => by
    have hb := ne_of_none z e
    refine x.kp b u (by rw [upd_ne hb]; exact z) ?_
    rintro (q | q)
    · exact n (.inl q)
    · rcases List.mem_cons.mp q with q | q
      · exact hb q
      · exact n (.inr q)
  gd := fun _ hq => .inl hq
  trk := fun b u z q => by
    have hb := ne_of_none z e
    exact x.trk b u (by rw [upd_ne hb]; exact z) q
  ge := rfl
  gk := fun b u hb z n => by
    have hbD := ne_of_none z e
    exact x.gk b u (List.mem_cons_of_mem _ hb) hbD (by rw [upd_ne hbD]; exact z) n
end
section
variable {C : CI} {X : Cx} {W : WX} {a b c : Expr} {ma mb mc : Env → AH → R DF} {pos : Pos}
theorem se_ix (hu : X.A.units + 64 < cLine) (ha : PE X a (tE C X.K W ma)) (hb : PE X b (tE C X.K W mb)) (hs : plainIx b = true) :
    PE X (.Subscript a b pos) (tE C X.K W fun env h => (ma env h).bind fun x h1 => (mb env h1).bind fun y h2 => opt h2 (ixEv h2 x.1 y.1)) :=
  (pe_ix (cx_ix (C := C) hu) ha hb (ix_of hs)).imp fun σ H Q h => lift2 (f := fun x y h => opt h (ixEv h x.1 y.1)) (fun x y h => nox_opt _ _) h
/-- a slice's bound -/
def partM (o : Option (Env → AH → R DF)) (env : Env) (h : AH) : R (Option Int) := match o with
  | none => .ok none h
  | some m => (m env h).bind fun d h1 => (match d.1 with
    | .int i => .ok (some i) h1
    | _ => .bad)
abbrev tO (C : CI) (K : PySem.W.Frag) (W : WX) (m : Env → AH → R (Option Int)) : TO := tG C K (rQ (Option Int)) W m
theorem so_none : PO X none (tO C X.K W (partM none)) := ⟨fun pins s σ H Q I q => po_none.run pins s σ H Q I (by
  obtain ⟨al, env, hh, rh, re, p⟩ := q
  exact p.q rh)⟩
theorem so_some (ha : PE X a (tE C X.K W ma)) : PO X (some a) (tO C X.K W (partM (some ma))) := ⟨fun pins s σ H Q I q => (po_some ha).run pins s σ H Q I (by
  refine (tG.bind (rl := rF C X.K) (f := fun _ d h1 => match d.1 with | .int i => .ok (some i) h1 | _ => .bad) q).imp fun v H1 q => ?_
  obtain ⟨al, env, h1, x, H0, rh, re, rx, p⟩ := q
  cases e : x.1 with
  | int i =>
    rw [e] at p
    have hv : v = .int i := by
      have := rx.1
      rw [e] at this
      exact this
    exact ⟨i, hv, p.q rh⟩
  | _ => rw [e] at p; exact p.elim)⟩
theorem se_sl {lo hi : Option Expr} {ml mh : Env → AH → R (Option Int)} {p2 : Pos} (ha : PE X a (tE C X.K W ma)) (hl : PO X lo (tO C X.K W ml)) (hh : PO X hi (tO C X.K W mh)) :
    PE X (.Subscript a (.Slice lo hi none p2) pos) (tE C X.K W fun env h => (ma env h).bind fun x h1 => (ml env h1).bind fun l h2 => (mh env h2).bind fun u h3 => opt h3 (slEv h3 x.1 l u)) := by
  refine (pe_slice (cx_sl (C := C)) ha hl hh).imp fun σ H Q h => ?_
  obtain ⟨al, env, hh, rh, re, p⟩ := h
  refine ⟨al, env, hh, rh, re, (Post.bind (rl := rF C X.K) p).imp (fun v H1 q => ?_) fun _ _ _ q => q⟩
  obtain ⟨al1, h1, x, _, ex, rh1, rx, p1⟩ := q
  refine ⟨al1, env, h1, rh1, re.ext ex, (Post.bind (rl := rQ _) p1).imp (fun l H2 q => ?_) fun _ _ _ q => q⟩
  obtain ⟨al2, h2, l', _, ex2, rh2, rl, p2⟩ := q
  have rl' : l' = l := rl
  subst rl'
  refine ⟨al2, env, h2, rh2, (re.ext ex.toExt0).ext ex2.toExt0, (Post.bind (rl := rQ _) p2).imp (fun u H3 q => ?_) fun _ _ _ q => q⟩
  obtain ⟨al3, h3, u', _, ex3, rh3, ru, p3⟩ := q
  have ru' : u' = u := ru
  subst ru'
  exact ⟨al3, h3, x.1, rh3, Rep.ext ex3.toExt0 _ (Rep.ext ex2.toExt0 _ rx.1), p3.dropE (nox_opt _ _)⟩
/-! ### calls of built-ins -/
/-- what a built-in's name is -/
def biName : BI → Str
  | .len => "len" | .all => "all" | .any => "any" | .sum => "sum" | .abs => "abs" | .int => "int" | .str => "str" | .tuple => "tuple" | .list => "list" | .min2 => "min" | .max2 => "max"
  | .minL => "min" | .maxL => "max" | .sorted => "sorted" | .sortK => "sorted"
theorem lift_bi {f : BI} {ms : Env → AH → R (List D)} {σ : L2.St} {H : Hp} {Q : VK} (h : tE C X.K W (fun env h => (ms env h).bind fun ds h1 => opt h1 (biEv f h1 ds)) σ H Q) : tCB (rB C X.K f) (tA C X.K W ms) σ H Q := by
  refine (tG.bind (rl := rL C X.K) (f := fun _ ds h1 => opt h1 (biEv f h1 ds)) h).imp fun vs H1 q => ?_
  obtain ⟨al, env, h1, x, H0, rh, re, rx, p⟩ := q
  exact ⟨al, h1, x, rh, rx, p.dropE (nox_opt _ _)⟩
theorem se_biB {f : BI} {id : String} {x : Str} {p : Pos} {e : Expr} {es : List Expr} {ms : Env → AH → R (List D)} (hc : CallR X (.builtin id) (rB C X.K f)) (hg : Gl X x) (hm : X.mg x = none) (hv : bootBuiltins x = some (.builtin id)) (ha : PA X (e :: es) (tA C X.K W ms)) (hn : x ≠ "__name__") (hdb : (x == ("__debug__" : Str)) = false)
    (hs : (e :: es).all noStar = true) : PE X (.Call (.Name x p) (e :: es) [] pos) (tE C X.K W fun env h => (ms env h).bind fun ds h1 => opt h1 (biEv f h1 ds)) :=
  (pe_callB hc hg hm hv ha hn hdb (star1 (all_cons hs).1) (star_any (all_cons hs).2)).imp fun σ H Q h => lift_bi h
theorem se_biT {f : BI} {id : String} {x : Str} {p : Pos} {e : Expr} {es : List Expr} {ms : Env → AH → R (List D)} (hc : CallR X (.type id) (rB C X.K f)) (hg : Gl X x) (hm : X.mg x = none) (hv : bootBuiltins x = some (.type id)) (ha : PA X (e :: es) (tA C X.K W ms)) (hn : x ≠ "__name__") (hdb : (x == ("__debug__" : Str)) = false)
    (hs : (e :: es).all noStar = true) : PE X (.Call (.Name x p) (e :: es) [] pos) (tE C X.K W fun env h => (ms env h).bind fun ds h1 => opt h1 (biEv f h1 ds)) :=
  (pe_callTy hc hg hm hv ha hn hdb (star1 (all_cons hs).1) (star_any (all_cons hs).2)).imp fun σ H Q h => lift_bi h
/-- every built-in -/
def biOk (calm : Bool) : BI → Bool
  | .all | .any | .sum | .min2 | .max2 | .minL | .maxL | .sortK => calm
  | _ => true
theorem bi_is (f : BI) (hc : biOk X.calm f = true) (hu : X.A.units + 64 < cLine) : (∃ id, bootBuiltins (biName f) = some (.builtin id) ∧ CallR X (.builtin id) (rB C X.K f)) ∨ ∃ id, bootBuiltins (biName f) = some (.type id) ∧ CallR X (.type id) (rB C X.K f) := by
  cases f with
  | len => exact .inl ⟨_, rfl, cb_len⟩
  | all => exact .inl ⟨_, rfl, cb_all hc⟩
  | any => exact .inl ⟨_, rfl, cb_any hc⟩
  | sum => exact .inl ⟨_, rfl, cb_sum hc⟩
  | abs => exact .inl ⟨_, rfl, cb_abs⟩
  | int => exact .inr ⟨_, rfl, cb_int⟩
  | str => exact .inr ⟨_, rfl, cb_str⟩
  | tuple => exact .inr ⟨_, rfl, cb_tuple⟩
  | list => exact .inr ⟨_, rfl, cb_list⟩
  | min2 => exact .inl ⟨_, rfl, cb_min2 hc⟩
  | max2 => exact .inl ⟨_, rfl, cb_max2 hc⟩
  | minL => exact .inl ⟨_, rfl, cb_minL hc hu⟩
  | maxL => exact .inl ⟨_, rfl, cb_maxL hc hu⟩
  | sorted => exact .inl ⟨_, rfl, cb_sorted hu⟩
  | sortK => exact .inl ⟨_, rfl, cb_sortK hc hu⟩
theorem biName_ok (f : BI) : biName f ≠ "__name__" ∧ ((biName f) == ("__debug__" : Str)) = false := by
  cases f <;> (constructor <;> decide)
theorem se_bi {f : BI} {p : Pos} {e : Expr} {es : List Expr} {ms : Env → AH → R (List D)} (hc : biOk X.calm f = true) (hu : X.A.units + 64 < cLine) (hg : Gl X (biName f)) (hm : X.mg (biName f) = none) (ha : PA X (e :: es) (tA C X.K W ms))
    (hs : (e :: es).all noStar = true) : PE X (.Call (.Name (biName f) p) (e :: es) [] pos) (tE C X.K W fun env h => (ms env h).bind fun ds h1 => opt h1 (biEv f h1 ds)) := by
  obtain ⟨h1, h2⟩ := biName_ok f
  rcases bi_is (C := C) f hc hu with ⟨id, hv, r⟩ | ⟨id, hv, r⟩
  · exact se_biB r hg hm hv ha h1 h2 hs
  · exact se_biT r hg hm hv ha h1 h2 hs
end
end Rw
end

section
set_option Elab.async false
set_option linter.all false
set_option maxRecDepth 100000
set_option maxHeartbeats 4000000
/-! RfE3: isinstance, methods, calls, registering. -/
namespace Rw
open PySem PySem.Spec PyProof.Rows L2
section
variable {C : CI} {X : Cx} {W : WX} {a b c : Expr} {ma mb mc : Env → AH → R DF} {pos : Pos}
/-! ### isinstance -/
def clName : Cl → String
  | .int => "int" | .bool => "bool" | .tuple => "tuple" | .list => "list" | .str => "str"
def clStr : Cl → Str
  | .int => "int" | .bool => "bool" | .tuple => "tuple" | .list => "list" | .str => "str"
theorem cl_boot (c : Cl) : bootBuiltins (clStr c) = some (.type (clName c)) := by cases c <;> rfl
theorem cl_ok (c : Cl) : clStr c ≠ "__name__" ∧ ((clStr c) == ("__debug__" : Str)) = false := by cases c <;> (constructor <;> decide)
theorem isi_of {K : PySem.W.Frag} {H : Hp} {al : AL} {h : AH} {d : D} {v : V} {c : Cl} {k : Bool} (rh : RepH C K H al h) (r : Rep C K H al d v) (e : isiEv c h d = some k) :
    ∃ t, TyX K H v t ∧ PySem.W.kitOne K t (.type (clName c)) = some k := by
  cases d with
  | non => cases (show v = _ from r); exact ⟨_, .base .non, by cases c <;> (cases e; rfl)⟩
  | bl b => cases (show v = _ from r); exact ⟨_, .base (.bl b), by cases c <;> (cases e; rfl)⟩
  | int i => cases (show v = _ from r); exact ⟨_, .base (.int i), by cases c <;> (cases e; rfl)⟩
  | str i => cases (show v = _ from r); exact ⟨_, .base (.str _), by cases c <;> (cases e; rfl)⟩
  | tup xs => obtain ⟨p, vs, rfl, ⟨hp, _⟩, _⟩ := r; exact ⟨_, .base (.tup hp), by cases c <;> (cases e; rfl)⟩
  | lst xs => obtain ⟨p, vs, rfl, ⟨hp, _⟩, _⟩ := r; exact ⟨_, .base (.lst hp), by cases c <;> (cases e; rfl)⟩
  | ref n =>
    simp only [isiEv] at e
    split at e
    · rename_i xs eo
      obtain ⟨p, ws, rfl, hp, rl, _⟩ := lst_at rh r eo
      exact ⟨_, .base (.lst hp), by cases c <;> (cases e; rfl)⟩
    · cases e
  | _ => cases e
theorem se_isi {cl : Cl} {p p2 : Pos} (hg : Gl X "isinstance") (hm : X.mg "isinstance" = none) (hgc : Gl X (clStr cl)) (hmc : X.mg (clStr cl) = none) (ha : PE X a (tE C X.K W ma)) (hs : noStar a = true) :
    PE X (.Call (.Name "isinstance" p) [a, .Name (clStr cl) p2] [] pos) (tE C X.K W fun env h => (ma env h).bind fun x h1 => opt h1 ((isiEv cl h1 x.1).map fun b => (.bl b, false))) := by
  have hb : PE X (.Name (clStr cl) p2) (tC (.ty (clName cl))) := pe_bltn hgc hmc (cl_boot cl) rfl (cl_ok cl).1 (cl_ok cl).2
  have hA : PA X [a, .Name (clStr cl) p2] (tCons (tE C X.K W ma) (tCons (tC (.ty (clName cl))) tNil)) := pa_cons ha (pa_cons hb pa_nil (star1 rfl)) (star1 hs)
  refine (pe_callB call_isi hg hm rfl hA (by decide) (by decide) (star1 hs) (star_any rfl)).imp fun σ H Q h => ?_
  refine (tG.bind (rl := rF C X.K) (f := fun _ x h1 => opt h1 ((isiEv cl h1 x.1).map fun b => ((.bl b, false) : DF))) h).imp fun v H1 q => ?_
  obtain ⟨al, env, h1, x, H0, rh, re, rx, p⟩ := q
  obtain ⟨d, e, p⟩ := p.opt
  obtain ⟨k, e1, rfl⟩ := Option.map_eq_some_iff.mp e
  obtain ⟨t, h1, h2⟩ := isi_of rh rx.1 e1
  exact ⟨v, .ty (clName cl), t, _, k, rfl, .ty _, h1, h2, p.same rh rfl rfl⟩
/-! ### methods -/
def meName : ME → Str
  | .append => "append" | .extend => "extend" | .pop => "pop" | .popAt => "pop" | .index => "index" | .get => "get" | .join => "join"
def meArgs : ME → Nat
  | .append => 1 | .extend => 1 | .pop => 0 | .popAt => 1 | .index => 1 | .get => 2 | .join => 1
theorem ty_list {K : PySem.W.Frag} {H : Hp} {al : AL} {h : AH} {d : D} {v : V} (rh : RepH C K H al h) (r : Rep C K H al d v) (e : (litems h d).isSome = true) : tyV K "list" v H := by
  obtain ⟨xs, e⟩ := Option.isSome_iff_exists.mp e
  obtain ⟨p, vs, rfl, hs, _⟩ := litems_sq rh r e
  exact .inl ⟨rfl, vs, hs⟩
theorem ty_dict {K : PySem.W.Frag} {H : Hp} {al : AL} {h : AH} {d : D} {v : V} (rh : RepH C K H al h) (r : Rep C K H al d v) (e : (ddOf h d).isSome = true) : tyV K "dict" v H := by
  have key : ∀ {p : Addr}, ((∃ kvs, H p = some (.dK kvs)) ∨ ∃ kvs, H p = some (.dT kvs)) → tyV K "dict" (.ref p) H := fun h => .inr (.inr (.inl ⟨rfl, h⟩))
  cases d with
  | dT kvs => obtain ⟨p, ws, rfl, ⟨hp, _⟩, _⟩ := r; exact key (.inr ⟨_, hp⟩)
  | dI kvs => obtain ⟨p, ws, rfl, ⟨hp, _⟩, _⟩ := r; exact key (.inl ⟨_, hp⟩)
  | ref n =>
    have e : (match h.os[n]? with | some (.dT kvs) => some (DD.t kvs) | some (.dI kvs) => some (DD.i kvs) | _ => none).isSome = true := e
    split at e
    · rename_i kvs eo
      obtain ⟨p, ws, rfl, hp, _⟩ := dT_at rh r eo
      exact key (.inr ⟨_, hp⟩)
    · rename_i kvs eo
      obtain ⟨p, ws, rfl, hp, _⟩ := dI_at rh r eo
      exact key (.inl ⟨_, hp⟩)
    · cases e
  | _ => cases e
abbrev meM (m : ME) (ma : Env → AH → R DF) (ms : Env → AH → R (List D)) (env : Env) (h : AH) : R DF :=
  (ma env h).bind fun x h1 => if meTy m h1 x.1 then (ms env h1).bind fun ds h2 => meEv m h2 x.1 ds else .bad
theorem nox_me (m : ME) (h : AH) (x : D) (ys : List D) : NoX (meEv m h x ys) := by
  intro y h' e
  unfold meEv at e
  split at e
  all_goals first
    | (split at e <;> first | (split at e <;> first | (cases e; done) | (split at e <;> first | (cases e; done) | (split at e <;> cases e))) | (cases e; done))
    | (exact nox_opt _ _ _ _ e)
    | (split at e <;> first | exact nox_opt _ _ _ _ e | cases e)
    | (cases e; done)
theorem se_me {m : ME} {T id : String} {apos : Pos} {e : Expr} {es : List Expr} {ms : Env → AH → R (List D)} (pa : PlainAttrs T) (slot : Slot T (meName m) id) (hty : typeOf (.builtin id) = pure (.type "method_descriptor")) (hm : MtM X id (rM C X.K m))
    (ty : ∀ {H : Hp} {al : AL} {h : AH} {d : D} {v : V}, RepH C X.K H al h → Rep C X.K H al d v → meTy m h d = true → tyV X.K T v H)
    (ha : PE X a (tE C X.K W ma)) (hs : PA X (e :: es) (tA C X.K W ms)) (hb : noCall a = true) (hst : (e :: es).all noStar = true) (hl : (e :: es).length < 30) (hline : (apos.endLine == pos.line) = true) :
    PE X (.Call (.Attribute a (meName m) apos) (e :: es) [] pos) (tE C X.K W (meM m ma ms)) := by
  refine (pe_bm pa slot hty hm ha hs (base_of hb) (few_of hst hl) hline (star1 (all_cons hst).1) (star_any (all_cons hst).2)).imp fun σ H Q h => ?_
  obtain ⟨al, env, hh, rh, re, p⟩ := h
  refine ⟨al, env, hh, rh, re, (Post.bind (rl := rF C X.K) p).imp (fun v H1 q => ?_) fun _ _ _ q => q⟩
  obtain ⟨al1, h1, x, _, ex, rh1, rx, p1⟩ := q
  split at p1
  · rename_i ht
    refine ⟨ty rh1 rx.1 ht, al1, env, h1, rh1, re.ext ex, (Post.bind (rl := rL C X.K) p1).imp (fun vs H2 q => ?_) fun _ _ _ q => q⟩
    obtain ⟨al2, h2, ds, _, ex2, rh2, rd, p2⟩ := q
    exact ⟨al2, h2, x.1, ds, rh2, Rep.ext ex2 _ rx.1, rd, p2.dropE (nox_me _ _ _ _)⟩
  · exact p1.elim
theorem se_me0 {m : ME} {T id : String} {apos : Pos} (pa : PlainAttrs T) (slot : Slot T (meName m) id) (hty : typeOf (.builtin id) = pure (.type "method_descriptor")) (hm : MtM X id (rM C X.K m))
    (ty : ∀ {H : Hp} {al : AL} {h : AH} {d : D} {v : V}, RepH C X.K H al h → Rep C X.K H al d v → meTy m h d = true → tyV X.K T v H)
    (ha : PE X a (tE C X.K W ma)) (hb : noCall a = true) (hline : (apos.endLine == pos.line) = true) :
    PE X (.Call (.Attribute a (meName m) apos) [] [] pos) (tE C X.K W (meM m ma fun _ h => .ok [] h)) := by
  refine (pe_bm0 pa slot hty hm ha (base_of hb) hline).imp fun σ H Q h => ?_
  obtain ⟨al, env, hh, rh, re, p⟩ := h
  refine ⟨al, env, hh, rh, re, (Post.bind (rl := rF C X.K) p).imp (fun v H1 q => ?_) fun _ _ _ q => q⟩
  obtain ⟨al1, h1, x, _, ex, rh1, rx, p1⟩ := q
  split at p1
  · rename_i ht
    exact ⟨ty rh1 rx.1 ht, al1, h1, x.1, [], rh1, rx.1, rfl, p1.dropE (nox_me _ _ _ _)⟩
  · exact p1.elim
/-! ### calls -/
/-- what a def promises -/
def spF (C : CI) (K : PySem.W.Frag) (f : List D → AH → R DF) : Sp := fun vs H Q E => ∃ al h ds, RepH C K H al h ∧ RepL C K H al ds vs ∧ Post C K al H (rF C K) (f ds h) Q E
theorem lift_call {f : List D → AH → R DF} {ms : Env → AH → R (List D)} {σ : L2.St} {H : Hp} {Q : VK} (h : tE C X.K W (fun env h => (ms env h).bind fun ds h1 => f ds h1) σ H Q) : tA C X.K W ms σ H fun vs H1 => spF C X.K f (vs ++ []) H1 Q (WE W σ) := by
  refine (tG.bind (rl := rL C X.K) (f := fun _ ds h1 => f ds h1) h).imp fun vs H1 q => ?_
  obtain ⟨al, env, h1, ds, H0, rh, re, rd, p⟩ := q
  exact ⟨al, h1, ds, rh, by rw [List.append_nil]; exact rd, p⟩
theorem se_call {x : Str} {fa : Addr} {fd : FuncData} {ps : List Str} {k : Nat} {f : List D → AH → R DF} {p : Pos} {e : Expr} {es : List Expr} {ms : Env → AH → R (List D)} (F : FnOk X.prog X.w X.K X.mg X.base (L2.CX X.prog X.w) k fa fd ps (spF C X.K f)) (hr : Room k X.A) (hg : Gl X x) (hm : X.mg x = some (.ref fa))
    (hk : PySem.W.keepIn X.K (.ref fa) = true) (hb : Binds X.K fd ps []) (tk : Takes X W) (ha : PA X (e :: es) (tA C X.K W ms)) (hdb : (x == ("__debug__" : Str)) = false) (hst : (e :: es).all noStar = true) :
    PE X (.Call (.Name x p) (e :: es) [] pos) (tE C X.K W fun env h => (ms env h).bind fun ds h1 => f ds h1) :=
  (pe_callSD F hr hg hm hk hb .nil (fun σ => passAt tk σ) ha hdb (star1 (all_cons hst).1) (star_any (all_cons hst).2)).imp fun σ H Q h => lift_call h
theorem se_call0 {x : Str} {fa : Addr} {fd : FuncData} {ps : List Str} {k : Nat} {f : List D → AH → R DF} {p : Pos} (F : FnOk X.prog X.w X.K X.mg X.base (L2.CX X.prog X.w) k fa fd ps (spF C X.K f)) (hr : Room k X.A) (hg : Gl X x) (hm : X.mg x = some (.ref fa))
    (hk : PySem.W.keepIn X.K (.ref fa) = true) (hb : Binds X.K fd ps []) (tk : Takes X W) (hdb : (x == ("__debug__" : Str)) = false) :
    PE X (.Call (.Name x p) [] [] pos) (tE C X.K W fun _ h => f [] h) := by
  refine ⟨fun pins s σ H Q I h => ?_⟩
  refine wpAny_Call_Name_kw (ld_glob I hg hm ?_ hdb)
  obtain ⟨al, env, hh, rh, re, p⟩ := h
  exact PySem.W.callWith_K0 I.kIn hk (run_fnSD (us := []) (vs := []) (E := WE W) F hr hb .nil (passAt tk σ) I .nil ⟨al, hh, [], rh, rfl, p⟩)
/-! ### displays, constants -/
theorem se_emT : PE X (.Dict [] [] pos) (tE C X.K W fun _ h => .ok (.dT [], true) h) := by
  refine pe_dnewT.imp fun σ H Q h => ?_
  obtain ⟨al, env, hh, rh, re, p⟩ := h
  exact fun q n => p.new rh n ⟨q, [], rfl, ⟨upd_same, rh.notAt n⟩, rfl⟩ fun _ => rfl
theorem se_emI : PE X (.Dict [] [] pos) (tE C X.K W fun _ h => .ok (.dI [], true) h) := by
  refine pe_dnewK.imp fun σ H Q h => ?_
  obtain ⟨al, env, hh, rh, re, p⟩ := h
  exact fun q n => p.new rh n ⟨q, [], rfl, ⟨upd_same, rh.notAt n⟩, rfl⟩ fun _ => rfl
/-- a module's constant -/
theorem se_gl {x : Str} {v : V} {u : Value} {d : D} {pos : Pos} (hg : Gl X x) (hm : X.mg x = some u) (r : RelV v u) (hdb : (x == ("__debug__" : Str)) = false) (hr : ∀ H al, Rep C X.K H al d v) : PE X (.Name x pos) (tE C X.K W fun _ h => .ok (d, false) h) :=
  se_c (pe_glob hg hm r hdb) hr
/-! ### registering -/
def obOf : D → Option Ob
  | .lst xs => some (.lst xs)
  | .dT kvs => some (.dT kvs)
  | .dI kvs => some (.dI kvs)
  | _ => none
/-- one more registered object -/
def AL.add (al : AL) (q : Addr) : AL := ⟨al.r ++ [some q], al.g⟩
theorem add_get {al : AL} {q p : Addr} {n : Nat} (e : (al.add q).r[n]? = some (some p)) : al.r[n]? = some (some p) ∨ (n = al.r.length ∧ p = q) := by
  unfold AL.add at e
  dsimp only at e
  by_cases hn : n < al.r.length
  · rw [List.getElem?_append_left hn] at e
    exact .inl e
  · rw [List.getElem?_append_right (Nat.le_of_not_lt hn)] at e
    have h0 : n - al.r.length = 0 := by
      have := lt_of_at e
      simpa using this
    rw [h0] at e
    cases e
    exact .inr ⟨by omega, rfl⟩
theorem add_old {al : AL} {q p : Addr} {n : Nat} (e : al.r[n]? = some (some p)) : (al.add q).r[n]? = some (some p) := by
  unfold AL.add
  rw [List.getElem?_append_left (lt_of_at e)]
  exact e
theorem add_new {al : AL} {q : Addr} : (al.add q).r[al.r.length]? = some (some q) := by simp [AL.add]
section
variable {K : PySem.W.Frag} {al al' : AL} {H H' H0 : Hp} {h : AH} {q : Addr} {o : HO}
theorem Ext0.add (e : H q = none) : Ext0 al H (al.add q) (upd H q o) where
  len := by simp [AL.add]
  old := fun n p z => by
    rcases add_get z with z | ⟨y, rfl⟩
    · exact .inl ⟨lt_of_at z, z⟩
    · exact .inr ⟨Nat.le_of_eq y.symm, e⟩
  kp := fun b u z _ => by rw [upd_ne (ne_of_none z e)]; exact z
  gd := fun _ z => .inl z
  trk := fun b u z y => by rw [upd_ne (ne_of_none z e), z] at y; cases y
theorem Ext.add (x : Ext al H al' H') (e : H q = none) : Ext al H (al'.add q) H' where
  len := Nat.le_trans x.len (by simp [AL.add])
  old := fun n p z => by
    rcases add_get z with z | ⟨y, rfl⟩
    · exact x.old n p z
    · exact .inr ⟨by rw [y]; exact x.len, e⟩
  kp := x.kp
  gd := x.gd
  trk := x.trk
  ge := x.ge
  gk := x.gk
theorem RepH.add {ob : Ob} {t : Nat} (r : RepH C K H0 al h) (e : H0 q = none) (new : RepO C K (upd H0 q o) (al.add q) q ob) (ht : ob.top ≤ max h.fl t) (nv : ∀ vs, o ≠ .tup vs := by intro _ z; cases z) : RepH C K (upd H0 q o) (al.add q) (h.new ob t) where
  len := by simp [AL.add, AH.new, r.len]
  inj := fun i j p a b => by
    have no : ∀ {i : Nat}, al.r[i]? = some (some q) → False := fun z => r.trk q (.inl ⟨_, z⟩) e
    rcases add_get a with a | ⟨ia, pa⟩
    · rcases add_get b with b | ⟨ib, pb⟩
      · exact r.inj i j p a b
      · exact (no (pb ▸ a)).elim
    · rcases add_get b with b | ⟨ib, pb⟩
      · exact (no (pa ▸ b)).elim
      · exact ia.trans ib.symm
  dis := fun p hp z => by
    obtain ⟨n, z⟩ := z
    rcases add_get z with z | ⟨_, rfl⟩
    · exact r.dis p hp ⟨n, z⟩
    · exact r.trk p (.inr hp) e
  trk := fun p a z => by
    by_cases hp : p = q
    · rw [hp, upd_same] at z; cases z
    · rw [upd_ne hp] at z
      rcases a with ⟨n, a⟩ | a
      · rcases add_get a with a | ⟨_, a⟩
        · exact r.trk p (.inl ⟨n, a⟩) z
        · exact hp a
      · exact r.trk p (.inr a) z
  nt := fun p a vs z => by
    by_cases hp : p = q
    · rw [hp, upd_same] at z; exact nv vs (Option.some.inj z)
    · rw [upd_ne hp] at z
      rcases a with ⟨n, a⟩ | a
      · rcases add_get a with a | ⟨_, a⟩
        · exact r.nt p (.inl ⟨n, a⟩) vs z
        · exact hp a
      · exact r.nt p (.inr a) vs z
  ob := fun n o' z => by
    show _ ∨ _
    rw [show (h.new ob t).os = h.os ++ [ob] from rfl] at z
    by_cases hn : n < h.os.length
    · rw [List.getElem?_append_left hn] at z
      rcases r.ob n o' z with h1 | ⟨b, h1, h2⟩
      · exact .inl h1
      · have hb : b ≠ q := fun y => r.trk b (.inl ⟨n, h1⟩) (y ▸ e)
        exact .inr ⟨b, add_old h1, h2.ext (Ext0.add e) (upd_ne hb)⟩
    · rw [List.getElem?_append_right (Nat.le_of_not_lt hn)] at z
      have h0 : n - h.os.length = 0 := by
        have := lt_of_at z
        simpa using this
      rw [h0] at z
      cases z
      have hn' : n = al.r.length := by rw [r.len]; omega
      exact .inr ⟨q, by rw [hn']; exact add_new, new⟩
  top := fun n o' z => by
    rw [show (h.new ob t).os = h.os ++ [ob] from rfl] at z
    show _ ≤ max h.fl t
    by_cases hn : n < h.os.length
    · rw [List.getElem?_append_left hn] at z
      exact Nat.le_trans (r.top n o' z) (Nat.le_max_left _ _)
    · rw [List.getElem?_append_right (Nat.le_of_not_lt hn)] at z
      have h0 : n - h.os.length = 0 := by
        have := lt_of_at z
        simpa using this
      rw [h0] at z
      cases z
      exact ht
theorem Kid.repO {d : D} {ob : Ob} (k : Kid C K H0 al d o) (e : H0 q = none) (c : obOf d = some ob) : RepO C K (upd H0 q o) (al.add q) q ob := by
  cases d with
  | lst xs =>
    cases o with
    | lst vs => cases c; exact ⟨vs, upd_same, RepL.ext (Ext0.add e) _ k⟩
    | _ => exact k.elim
  | dT xs =>
    cases o with
    | dT vs => cases c; exact ⟨vs, upd_same, RepT.ext (Ext0.add e) _ k⟩
    | _ => exact k.elim
  | dI xs =>
    cases o with
    | dK vs => cases c; exact ⟨vs, upd_same, RepI.ext (Ext0.add e) _ k⟩
    | _ => exact k.elim
  | _ => cases c
end
theorem se_reg (ha : PE X a (tE C X.K W ma)) : PE X a (tE C X.K W fun env h => (ma env h).bind fun d h1 => regEv h1 d) := by
  refine ha.imp fun σ H Q h => ?_
  obtain ⟨al, env, hh, rh, re, p⟩ := h
  refine ⟨al, env, hh, rh, re, ?_⟩
  dsimp only at p
  cases e : ma env hh with
  | exc x h => rw [e] at p; exact p
  | bad => rw [e] at p; exact p
  | ok d h1 =>
    rw [e] at p
    simp only [R.bind] at p
    have key : ∀ {ob : Ob} {t : Nat}, regEv h1 d = .ok (.ref h1.os.length, false) (h1.new ob t) → d.2 = true → ob.top = t → obOf d.1 = some ob →
        Post C X.K al H (rF C X.K) (.ok d h1) Q (fun c d H' => W c d σ H') := by
      intro ob t er ef et ec
      rw [er] at p
      intro al' H' b ex rh' q
      obtain ⟨q', H0, o, rfl, hq, h0, rfl, r0, k⟩ := q.2 ef
      refine p (al'.add q') _ (.ref q') (ex.add hq) (r0.add h0 (k.repO h0 ec) (by rw [et]; exact Nat.le_max_right _ _) k.nt) ⟨⟨?_, fun z hz => ?_⟩, fun z => nomatch z⟩
      · simp [AL.add, ← r0.len]
      · rw [← r0.len, add_new] at hz
        cases hz
        rfl
    obtain ⟨d1, d2⟩ := d
    cases d2 with
    | false => cases d1 <;> exact False.elim p
    | true =>
      cases d1 with
      | lst xs => exact key rfl rfl rfl rfl
      | dT xs => exact key rfl rfl rfl rfl
      | dI xs => exact key rfl rfl rfl rfl
      | _ => exact False.elim p
end
end Rw
end

section
set_option Elab.async false
set_option linter.all false
set_option maxRecDepth 100000
set_option maxHeartbeats 4000000
/-! RfT: targets. -/
namespace Rw
open PySem PySem.Spec PyProof.Rows L2
/-- the slots, but for those at vs as they were -/
def rE (C : CI) (K : PySem.W.Frag) (vs : List Nat) (σ0 : L2.St) : Rl Env L2.St := ⟨fun _ al' H' _ env σ => RepE C K H' al' env σ ∧ wipe σ vs = wipe σ0 vs, fun _ q => q⟩
/-- a target's reading -/
def gT (C : CI) (K : PySem.W.Frag) (vs : List Nat) (m : D → Env → AH → R Env) : TG := fun v σ H Q =>
  ∃ al env h d, RepH C K H al h ∧ RepE C K H al env σ ∧ Rep C K H al d v ∧ Post C K al H (rE C K vs σ) (m d env h) Q (fun _ _ _ => False)
def gL (C : CI) (K : PySem.W.Frag) (vs : List Nat) (m : List D → Env → AH → R Env) : TGs := fun ws σ H Q =>
  ∃ al env h ds, RepH C K H al h ∧ RepE C K H al env σ ∧ RepL C K H al ds ws ∧ Post C K al H (rE C K vs σ) (m ds env h) Q (fun _ _ _ => False)
theorem Post.rl {α β : Type} {C : CI} {K : PySem.W.Frag} {al : AL} {H : Hp} {rl rl' : Rl α β} {r : R α} {Q : β → Hp → Prop} {E : XK} (p : Post C K al H rl r Q E) (i : ∀ {al' H' h a b}, rl'.r H al' H' h a b → rl.r H al' H' h a b) : Post C K al H rl' r Q E := by
  cases r with
  | ok a h => exact fun al' H' b ex rh q => p al' H' b ex rh (i q)
  | exc x h => exact p
  | bad => exact p
theorem wipe_set {σ : L2.St} {i : Nat} {o : Option V} : ∀ {vs : List Nat}, i ∈ vs → wipe (σ.set i o) vs = wipe σ vs
  | [], h => by cases h
  | v :: vs, h => by
    show (wipe (σ.set i o) vs).set v none = (wipe σ vs).set v none
    by_cases hv : i ∈ vs
    · rw [wipe_set hv]
    · have e : i = v := by
        rcases List.mem_cons.mp h with h | h
        · exact h
        · exact absurd h hv
      subst e
      have : ∀ (ws : List Nat), i ∉ ws → wipe (σ.set i o) ws = (wipe σ ws).set i o := by
        intro ws
        induction ws with
        | nil => intro _; rfl
        | cons w ws ih =>
          intro h
          show (wipe (σ.set i o) ws).set w none = ((wipe σ ws).set w none).set i o
          rw [ih (fun z => h (List.mem_cons_of_mem _ z)), List.set_comm _ _ (fun z => h (by rw [z]; exact List.mem_cons_self ..))]
      rw [this vs hv, List.set_set]
theorem _root_.L2.PG.imp {X : Cx} {e : Expr} {t t' : TG} (h : PG X e t) (i : ∀ v σ H Q, t' v σ H Q → t v σ H Q) : PG X e t' := ⟨fun pins s σ H v u Q I r q => h.run pins s σ H v u Q I r (i v σ H Q q)⟩
theorem _root_.L2.PGs.imp {X : Cx} {e : List Expr} {t t' : TGs} (h : PGs X e t) (i : ∀ v σ H Q, t' v σ H Q → t v σ H Q) : PGs X e t' := ⟨fun pins s σ H v u Q I r q => h.run pins s σ H v u Q I r (i v σ H Q q)⟩
theorem nox_bind {α β : Type} {r : R α} {f : α → AH → R β} (h : NoX r) (hf : ∀ a h, NoX (f a h)) : NoX (r.bind f) := by
  intro x h' e
  cases r with
  | ok a h1 => exact hf a h1 x h' e
  | exc y h1 => exact h y h1 rfl
  | bad => cases e
theorem nox_nox {α : Type} (r : R α) : NoX r.nox := by
  intro x h e
  cases r <;> cases e
section
variable {C : CI} {K : PySem.W.Frag} {al : AL} {H : Hp} {h : AH}
theorem repT_any : ∀ {kvs : List (List Int × D)} {ws : List (List Key × V)} (k : List Int), RepT C K H al kvs ws → (ws.any fun kv => decide (kv.1 = keyL k)) = kvs.any fun p => p.1 == k
  | [], ws, k, r => by cases (show ws = [] from r); rfl
  | (k', d) :: kvs, ws, k, r => by
    obtain ⟨v, ws', rfl, r1, r2⟩ := r
    rw [List.any_cons, List.any_cons, repT_any k r2]
    congr 1
    by_cases e : k' = k
    · subst e; simp
    · have : keyL k' ≠ keyL k := fun z => e (keyL_inj z)
      simp [e, this]
theorem repI_any : ∀ {kvs : List (Int × D)} {ws : List (Key × V)} (k : Int), RepI C K H al kvs ws → (ws.any fun kv => decide (kv.1 = Sum.inl k)) = kvs.any fun p => p.1 == k
  | [], ws, k, r => by cases (show ws = [] from r); rfl
  | (k', d) :: kvs, ws, k, r => by
    obtain ⟨v, ws', rfl, r1, r2⟩ := r
    rw [List.any_cons, List.any_cons, repI_any k r2]
    congr 1
    by_cases e : k' = k
    · subst e; simp
    · have : (Sum.inl k' : Key) ≠ Sum.inl k := fun z => e (Sum.inl.inj z)
      simp [e, this]
theorem repT_app : ∀ {kvs kvs2 : List (List Int × D)} {ws ws2 : List (List Key × V)}, RepT C K H al kvs ws → RepT C K H al kvs2 ws2 → RepT C K H al (kvs ++ kvs2) (ws ++ ws2)
  | [], _, ws, _, r, r2 => by cases (show ws = [] from r); exact r2
  | (k', d) :: kvs, _, ws, _, r, q => by
    obtain ⟨v, ws', rfl, r1, r2⟩ := r
    exact ⟨v, _, rfl, r1, repT_app r2 q⟩
theorem repI_app : ∀ {kvs kvs2 : List (Int × D)} {ws ws2 : List (Key × V)}, RepI C K H al kvs ws → RepI C K H al kvs2 ws2 → RepI C K H al (kvs ++ kvs2) (ws ++ ws2)
  | [], _, ws, _, r, r2 => by cases (show ws = [] from r); exact r2
  | (k', d) :: kvs, _, ws, _, r, q => by
    obtain ⟨v, ws', rfl, r1, r2⟩ := r
    exact ⟨v, _, rfl, r1, repI_app r2 q⟩
theorem repT_map : ∀ {kvs : List (List Int × D)} {ws : List (List Key × V)} (k : List Int) {d : D} {v : V}, RepT C K H al kvs ws → Rep C K H al d v → RepT C K H al (kvs.map fun p => if p.1 == k then (p.1, d) else p) (ws.map fun kv => if kv.1 = keyL k then (kv.1, v) else kv)
  | [], ws, k, d, v, r, _ => by cases (show ws = [] from r); rfl
  | (k', d') :: kvs, ws, k, d, v, r, q => by
    obtain ⟨v', ws', rfl, r1, r2⟩ := r
    have ih := repT_map k r2 q
    rw [List.map_cons, List.map_cons]
    by_cases e : k' = k
    · subst e
      simp only [beq_self_eq_true, if_true]
      exact ⟨v, _, rfl, q, ih⟩
    · have e1 : (k' == k) = false := by simpa using e
      have e2 : keyL k' ≠ keyL k := fun z => e (keyL_inj z)
      simp only [e1, if_neg e2, Bool.false_eq_true, if_false]
      exact ⟨v', _, rfl, r1, ih⟩
theorem repI_map : ∀ {kvs : List (Int × D)} {ws : List (Key × V)} (k : Int) {d : D} {v : V}, RepI C K H al kvs ws → Rep C K H al d v → RepI C K H al (kvs.map fun p => if p.1 == k then (p.1, d) else p) (ws.map fun kv => if kv.1 = Sum.inl k then (kv.1, v) else kv)
  | [], ws, k, d, v, r, _ => by cases (show ws = [] from r); rfl
  | (k', d') :: kvs, ws, k, d, v, r, q => by
    obtain ⟨v', ws', rfl, r1, r2⟩ := r
    have ih := repI_map k r2 q
    rw [List.map_cons, List.map_cons]
    by_cases e : k' = k
    · subst e
      simp only [beq_self_eq_true, if_true]
      exact ⟨v, _, rfl, q, ih⟩
    · have e1 : (k' == k) = false := by simpa using e
      have e2 : (Sum.inl k' : Key) ≠ Sum.inl k := fun z => e (Sum.inl.inj z)
      simp only [e1, if_neg e2, Bool.false_eq_true, if_false]
      exact ⟨v', _, rfl, r1, ih⟩
theorem repT_put {kvs : List (List Int × D)} {ws : List (List Key × V)} (k : List Int) {d : D} {v : V} (r : RepT C K H al kvs ws) (q : Rep C K H al d v) : RepT C K H al (putT k d kvs) (putK ws (keyL k) v) := by
  unfold putT putK
  rw [repT_any k r]
  split
  · exact repT_map k r q
  · exact repT_app r ⟨v, [], rfl, q, rfl⟩
theorem repI_put {kvs : List (Int × D)} {ws : List (Key × V)} (k : Int) {d : D} {v : V} (r : RepI C K H al kvs ws) (q : Rep C K H al d v) : RepI C K H al (putI k d kvs) (putK ws (Sum.inl k) v) := by
  unfold putI putK
  rw [repI_any k r]
  split
  · exact repI_map k r q
  · exact repI_app r ⟨v, [], rfl, q, rfl⟩
theorem repT_len : ∀ {kvs : List (List Int × D)} {ws : List (List Key × V)}, RepT C K H al kvs ws → kvs.length = ws.length
  | [], ws, r => by cases (show ws = [] from r); rfl
  | (k', d) :: kvs, ws, r => by
    obtain ⟨v, ws', rfl, r1, r2⟩ := r
    simp [repT_len r2]
theorem repI_len : ∀ {kvs : List (Int × D)} {ws : List (Key × V)}, RepI C K H al kvs ws → kvs.length = ws.length
  | [], ws, r => by cases (show ws = [] from r); rfl
  | (k', d) :: kvs, ws, r => by
    obtain ⟨v, ws', rfl, r1, r2⟩ := r
    simp [repI_len r2]
theorem topT_put {kvs : List (List Int × D)} {k : List Int} {d : D} {n : Nat} (h : topT kvs ≤ n) : topT (putT k d kvs) ≤ max n d.top := by
  refine topT_le.mpr fun x hx => ?_
  unfold putT at hx
  split at hx
  · obtain ⟨y, hy, rfl⟩ := List.mem_map.mp hx
    split
    · exact Nat.le_max_right _ _
    · exact Nat.le_trans (topT_le.mp h y hy) (Nat.le_max_left _ _)
  · rcases List.mem_append.mp hx with hx | hx
    · exact Nat.le_trans (topT_le.mp h x hx) (Nat.le_max_left _ _)
    · rw [List.mem_singleton.mp hx]; exact Nat.le_max_right _ _
theorem topI_put {kvs : List (Int × D)} {k : Int} {d : D} {n : Nat} (h : topI kvs ≤ n) : topI (putI k d kvs) ≤ max n d.top := by
  refine topI_le.mpr fun x hx => ?_
  unfold putI at hx
  split at hx
  · obtain ⟨y, hy, rfl⟩ := List.mem_map.mp hx
    split
    · exact Nat.le_max_right _ _
    · exact Nat.le_trans (topI_le.mp h y hy) (Nat.le_max_left _ _)
  · rcases List.mem_append.mp hx with hx | hx
    · exact Nat.le_trans (topI_le.mp h x hx) (Nat.le_max_left _ _)
    · rw [List.mem_singleton.mp hx]; exact Nat.le_max_right _ _
theorem tems_sq {d : D} {v : V} {xs : List D} (r : Rep C K H al d v) (e : tems d = some xs) : ∃ p vs, v = .ref p ∧ (SqT K H p vs ∨ SqL K H p vs) ∧ RepL C K H al xs vs := by
  cases d with
  | tup ys =>
    cases e
    obtain ⟨p, vs, rfl, hp, rl⟩ := r
    exact ⟨p, vs, rfl, .inl hp.sq, rl⟩
  | ktp ys =>
    cases e
    obtain ⟨p, vs, rfl, hp, rl⟩ := r
    exact ⟨p, vs, rfl, .inl (.inr hp), rl⟩
  | lst ys =>
    cases e
    obtain ⟨p, vs, rfl, ⟨hp, hn⟩, rl⟩ := r
    exact ⟨p, vs, rfl, .inr (.inl (.inl hp)), rl⟩
  | _ => cases e
end
/-- o[i] = v -/
def rSet (C : CI) (K : PySem.W.Frag) : TSet := fun o i v H Q => ∃ al h od id d h', RepH C K H al h ∧ Rep C K H al od o ∧ Rep C K H al id i ∧ Rep C K H al d v ∧ setEv h od id d = some h' ∧
  ∀ H', Ext al H al H' → RepH C K H' al h' → Q H'
section
variable {C : CI} {X : Cx} {vs : List Nat}
theorem cx_set (hu : X.A.units + 64 < cLine) : PSet X (rSet C X.K) := by
  intro pins s σ H o i v ov iv u Q I ro ri rv q
  obtain ⟨al, h, od, id, d, h', rh, rod, rid, rd, e, q⟩ := q
  cases od with
  | ref n =>
    simp only [setEv] at e
    split at e
    · rename_i xs eo
      obtain ⟨p, ws, rfl, hp, rl, ha⟩ := lst_at rh rod eo
      cases id with
      | int j =>
        cases (show i = _ from rid)
        obtain ⟨k, ek, rfl⟩ := Option.map_eq_some_iff.mp e
        refine set_list pins s σ H _ _ _ ov iv u Q I ro ri rv ⟨p, ws, j, k, rfl, rfl, hp, by rw [← rl.length]; exact ek, ?_⟩
        refine q _ (Ext.write ⟨n, ha⟩) (rh.put ha eo ⟨_, upd_same, (RepL.ext (Ext.write ⟨n, ha⟩).toExt0 _ rl).set k (Rep.ext (Ext.write ⟨n, ha⟩).toExt0 _ rd)⟩ ?_)
        have := rh.top n _ eo
        refine topL_le.mpr fun w hw => ?_
        rcases List.mem_or_eq_of_mem_set hw with hw | hw
        · exact Nat.le_trans (topL_le.mp this w hw) (Nat.le_max_left _ _)
        · rw [hw]; exact Nat.le_max_right _ _
      | _ => cases e
    · rename_i kvs eo
      obtain ⟨p, ws, rfl, hp, rl, ha⟩ := dT_at rh rod eo
      obtain ⟨k, ek, e⟩ := Option.bind_eq_some_iff.mp e
      split at e
      · rename_i hl
        cases e
        obtain ⟨b, rfl, hb⟩ := keyT_rep ek rid
        refine set_dict (by omega) pins s σ H _ _ _ ov iv u Q I ro ri rv ⟨p, _, rfl, DPut.t hp hb ?_, ?_⟩
        · rw [← repT_len rl]
          exact Nat.lt_of_lt_of_le hl (ln_line (Nat.le_refl _))
        · refine q _ (Ext.write ⟨n, ha⟩) (rh.put ha eo ⟨_, upd_same, repT_put k (RepT.ext (Ext.write ⟨n, ha⟩).toExt0 _ rl) (Rep.ext (Ext.write ⟨n, ha⟩).toExt0 _ rd)⟩ ?_)
          exact topT_put (rh.top n _ eo)
      · cases e
    · rename_i kvs eo
      obtain ⟨p, ws, rfl, hp, rl, ha⟩ := dI_at rh rod eo
      obtain ⟨k, ek, e⟩ := Option.bind_eq_some_iff.mp e
      split at e
      · rename_i hl
        cases e
        cases keyI_of ek
        cases (show i = _ from rid)
        refine set_dict (by omega) pins s σ H _ _ _ ov iv u Q I ro ri rv ⟨p, _, rfl, DPut.k (k := Sum.inl k) hp ?_, ?_⟩
        · rw [← repI_len rl]
          exact Nat.lt_of_lt_of_le hl (ln_line (Nat.le_refl _))
        · refine q _ (Ext.write ⟨n, ha⟩) (rh.put ha eo ⟨_, upd_same, repI_put k (RepI.ext (Ext.write ⟨n, ha⟩).toExt0 _ rl) (Rep.ext (Ext.write ⟨n, ha⟩).toExt0 _ rd)⟩ ?_)
          exact topI_put (rh.top n _ eo)
      · cases e
    · cases e
  | _ => cases e
/-! ### the targets' rules -/
def nmM (i : Nat) (d : D) (env : Env) (h : AH) : R Env := if i < env.length then .ok (env.set i (some d)) h else .bad
theorem noX_exc {d : D} {c : Nat} {fs : List D} (h : noX d = true) : d ≠ .exc c fs := fun z => by subst z; cases h
theorem sg_nm {i : Nat} {x : Str} {pos : Pos} (hv : i ∈ vs) (hN : X.N.Nodup) (hi : X.N[i]? = some x) (hx : Loc X.env.scope x) (hf : X.fn x = true ∨ X.env.scope.names.lookup x = some .local) : PG X (.Name x pos) (gT C X.K vs (nmM i)) :=
  (pg_name hN hi hx hf).imp fun v σ H Q q => by
    obtain ⟨al, env, h, d, rh, re, rd, p⟩ := q
    unfold nmM at p
    split at p
    · rename_i hd
      exact p al H (σ.set i (some v)) (Ext.refl _ _) rh ⟨RepE.set re i rd, wipe_set hv⟩
    · exact p.elim
theorem asg1 {e : Expr} {es : List Expr} {env : PySem.Env} (h : noStar e = true) : (assignEach (e :: es) env).map (·.2) = assign e env :: (assignEach es env).map (·.2) := by
  cases e <;> first | rfl | cases h
theorem asg_len {env : PySem.Env} : ∀ {es : List Expr}, (assignEach es env).length = es.length
  | [] => rfl
  | e :: es => by
    have ih := asg_len (env := env) (es := es)
    cases e <;> simp [assignEach, ih]
theorem asg_none {env : PySem.Env} : ∀ {es : List Expr}, es.all noStar = true → (assignEach es env).findIdx? (·.1) = none
  | [], _ => rfl
  | e :: es, h => by
    obtain ⟨h1, h2⟩ := all_cons h
    have ih := asg_none (env := env) h2
    have e1 : assignEach (e :: es) env = (false, assign e env) :: assignEach es env := by cases e <;> first | rfl | cases h1
    rw [e1, List.findIdx?_cons, ih]
    rfl
theorem gL_cons {f : T → D → Env → AH → R Env} {t : T} {ts : List T} {e : Expr} {es : List Expr} (h1 : PG X e (gT C X.K vs (f t))) (h2 : PGs X es (gL C X.K vs (asgL f ts))) (hs : noStar e = true) : PGs X (e :: es) (gL C X.K vs (asgL f (t :: ts))) :=
  (pgs_cons h1 h2 (asg1 hs)).imp fun vs σ H Q q => by
    obtain ⟨al, env, h, ds, rh, re, rd, p⟩ := q
    cases ds with
    | nil => exact p.elim
    | cons d ds =>
      obtain ⟨v, ws, rfl, r1, r2⟩ := rd
      refine ⟨v, ws, rfl, al, env, h, d, rh, re, r1, ?_⟩
      refine (Post.bind (rl := rE C X.K vs σ) p).imp (fun σ1 H1 q => ?_) fun _ _ _ q => q
      obtain ⟨al1, h1, env1, _, ex, rh1, re1, p1⟩ := q
      exact ⟨al1, env1, h1, ds, rh1, re1.1, RepL.ext ex _ r2, p1.rl fun q => ⟨q.1, q.2.trans re1.2⟩⟩
theorem gL_nil' {f : T → D → Env → AH → R Env} : PGs X [] (gL C X.K vs (asgL f [])) := pgs_nil.imp fun vs σ H Q q => by
  obtain ⟨al, env, h, ds, rh, re, rd, p⟩ := q
  cases ds with
  | nil => exact ⟨rd, p al H σ (Ext.refl _ _) rh ⟨re, rfl⟩⟩
  | cons d ds => exact p.elim
theorem pg_or {e : Expr} {t t' : TG} (h : PG X e t) (h' : PG X e t') : PG X e (fun v σ H Q => t v σ H Q ∨ t' v σ H Q) := ⟨fun pins s σ H v u Q I r q => q.elim (fun q => h.run pins s σ H v u Q I r q) fun q => h'.run pins s σ H v u Q I r q⟩
theorem sg_tp {f : T → D → Env → AH → R Env} {ts : List T} {es : List Expr} {k : Nat} {pos : Pos} (hc : X.calm = true) (h : PGs X es (gL C X.K vs (asgL f ts))) (hl : ts.length = es.length) (hs : es.all noStar = true) :
    PG X (.Tuple es k pos) (gT C X.K vs fun d env h => (match tems d with | some xs => if xs.length = ts.length then asgL f ts xs env h else .bad | none => .bad)) :=
  (pg_or (pg_tup (n := es.length) hc h asg_len (asg_none hs)) (pg_lst (n := es.length) hc h asg_len (asg_none hs))).imp fun v σ H Q q => by
    obtain ⟨al, env, h, d, rh, re, rd, p⟩ := q
    dsimp only at p
    split at p
    · rename_i xs e
      split at p
      · rename_i hn
        obtain ⟨a, ws, rfl, hq, rl⟩ := tems_sq rd e
        rcases hq with hq | hq
        · exact .inl ⟨a, ws, rfl, hq, by rw [← rl.length, hn, hl], al, env, h, xs, rh, re, rl, p⟩
        · exact .inr ⟨a, ws, rfl, hq, by rw [← rl.length, hn, hl], al, env, h, xs, rh, re, rl, p⟩
      · exact p.elim
    · exact p.elim
theorem sg_ix {W : WX} {mo mi : Env → AH → R DF} {o i : Expr} {pos : Pos} (hu : X.A.units + 64 < cLine) (ho : PE X o (tE C X.K W mo)) (hi : PE X i (tE C X.K W mi)) (hs : plainIx i = true) :
    PG X (.Subscript o i pos) (gT C X.K vs fun d env h => (mo env h).nox.bind fun od h1 => (mi env h1).nox.bind fun id h2 => (match setEv h2 od.1 id.1 d with | some h3 => .ok env h3 | none => .bad)) :=
  (pg_sub ho hi (cx_set (C := C) hu) (fun v => by cases i <;> first | rfl | cases hs)).imp fun v σ H Q q => by
    obtain ⟨al, env, h, d, rh, re, rd, p⟩ := q
    refine ⟨al, env, h, rh, re, Post.nox ((Post.bind (rl := rF C X.K) p).imp (fun o H1 q => ?_) fun _ _ _ q => q)⟩
    obtain ⟨al1, h1, od, _, ex, rh1, ro, p1⟩ := q
    refine ⟨al1, env, h1, rh1, re.ext ex, Post.nox ((Post.bind (rl := rF C X.K) p1).imp (fun i H2 q => ?_) fun _ _ _ q => q)⟩
    obtain ⟨al2, h2, id, _, ex2, rh2, ri, p2⟩ := q
    split at p2
    · rename_i h3 e
      refine ⟨al2, h2, od.1, id.1, d, h3, rh2, Rep.ext ex2 _ ro.1, ri.1, Rep.ext ex2.toExt0 _ (Rep.ext ex.toExt0 _ rd), e, fun H' ex3 rh3 => ?_⟩
      exact p2 al2 H' σ ex3 rh3 ⟨((re.ext ex.toExt0).ext ex2.toExt0).ext ex3.toExt0, rfl⟩
    · exact p2.elim
end
end Rw
end

section
set_option Elab.async false
set_option linter.all false
set_option maxRecDepth 100000
set_option maxHeartbeats 4000000
/-! RfI: what is walked. -/
namespace PySem
open Sem (wp)
open AutoSeq1 (wpAny_loadPart')
theorem rw_meets_enum_newT (l : Addr) (items : Array Value) (o : Obj) (n : Nat) (hc : o.cls = .type "tuple") (hd : o.data = .seq items n) :
    Meets (Builtin.«enumerate.__new__» ⟨[.type "enumerate", .ref l], []⟩) (fun _ R s => s.heap.get? l = some o ∧
      R (.ok (.ret (.ref (s.heap.push { cls := .type "tuple_iterator", data := .fields #[.ref l, .int 0 0] }).objs.size)))
        { s with heap := (s.heap.push { cls := .type "tuple_iterator", data := .fields #[.ref l, .int 0 0] }).push { cls := .type "enumerate", data := .fields #[.none, .bool false, .ref s.heap.objs.size, rawInt 0, .none, .none] } }) :=
  .of_wp fun prog w A R s h => by
    obtain ⟨hp, g, d, tk, os⟩ := s; obtain ⟨hl, h⟩ := h
    have hsub := sub_enumerate
    have hL : Heap.IsTuple (Shared.heap ⟨hp, g, d, tk, os⟩) l items := ⟨_, hl, hc, n, hd⟩
    wp_walk using wpAny_loadPart' hl
    refine wpAny_stack_any fun st => wpAny_pure ?_
    split
    · rename_i c _ _ _ _ _
      cases (c == Value.type "enumerate")
      · wp_walk using wpAny_loadPart' hl, wpAny_pyIter_tuple hL
        exact ⟨_, rfl, h⟩
      · wp_walk using wpAny_loadPart' hl, wpAny_pyIter_tuple hL
        exact ⟨_, rfl, h⟩
    · wp_walk using wpAny_loadPart' hl, wpAny_pyIter_tuple hL
      exact ⟨_, rfl, h⟩
section
variable {prog : Program} {w : World} {A : Around} {E : Value → Shared → Prop} {s : Shared}
theorem rw_call_enum_tuple {l : Addr} {items : Array Value} {Q : Value → Shared → Prop} (hL : s.heap.IsTuple l items)
    (h : ∀ h', IsEnum h' (s.heap.objs.size + 1) s.heap.objs.size 0 .none → h'.IsTupleIter s.heap.objs.size l 0 → h'.objs.size = s.heap.objs.size + 2 →
      (∀ b o, s.heap.get? b = some o → h'.get? b = some o) → Q (.ref (s.heap.objs.size + 1)) { s with heap := h' }) :
    wpAny (model prog w) A (call (.type "enumerate") [.ref l]) Q E s := by
  obtain ⟨o, hl, hc, n, hd⟩ := hL
  refine callType_new F.called_enumerate (by decide) (F.typeCall_enumerate_1 _) (F.newCall_enumerate_1 _) (fun obj => F.args_object_init_2 obj _) F.entry_enumerate_new
    (rw_meets_enum_newT l items o n hc hd) ⟨hl, ?_⟩
  have hz : (s.heap.push { cls := .type "tuple_iterator", data := .fields #[.ref l, .int 0 0] }).objs.size = s.heap.objs.size + 1 := Heap.size_push ..
  show _ ∧ _
  rw [hz]
  have he : IsEnum ((s.heap.push { cls := .type "tuple_iterator", data := .fields #[.ref l, .int 0 0] }).push
      { cls := .type "enumerate", data := .fields #[.none, .bool false, .ref s.heap.objs.size, rawInt 0, .none, .none] }) (s.heap.objs.size + 1) s.heap.objs.size 0 .none := by
    have := Heap.get?_push_size (s.heap.push { cls := .type "tuple_iterator", data := .fields #[.ref l, .int 0 0] })
      (o := { cls := .type "enumerate", data := .fields #[.none, .bool false, .ref s.heap.objs.size, rawInt 0, .none, .none] }) rfl
    rw [hz] at this; exact this
  refine ⟨⟨_, he, rfl⟩, h _ he ⟨_, Heap.get?_push_of_some _ (Heap.get?_push_size _ rfl), rfl, rfl⟩ (by rw [Heap.size_push, hz]) fun b o x => Heap.get?_push_of_some _ (Heap.get?_push_of_some _ x)⟩
end
end PySem
namespace Rw
open PySem PySem.Spec PyProof.Rows L2
/-- the tuple at a, each item in a new pair -/
def IteT (K : PySem.W.Frag) (a : Addr) : It :=
  ⟨fun i H => ∃ (xs : List V) (x : V), SqT K H a xs ∧ xs[i]? = some x, fun i H v H' => ∃ T x, v = .ref T ∧ H T = none ∧ H' = upd H T (.tup [.int (i : Nat), x]) ∧ ∀ xs, SqT K H a xs → xs[i]? = some x, fun i H => ∃ xs : List V, SqT K H a xs ∧ xs.length = i⟩
theorem turn_enumT {P : Program} {w : World} {K : PySem.W.Frag} {elts : List Expr} {kk : Nat} {tpos : Pos} (a e it : Addr) :
    Turn P w K (.Tuple elts kk tpos) (IteT K a) [e, it] e (fun i h => (∃ old, IsEnum h e it ((i : Nat) : Int) old) ∧ h.IsTupleIter it a i ∧ e ≠ it) where
  mem := by simp
  obj := fun i h st b hb => by
    obtain ⟨⟨old, he⟩, ⟨o, ho, hc, hd⟩, _⟩ := st
    have e' : b = e ∨ b = it := by simpa using hb
    rcases e' with z | z
    · rw [z]; exact ⟨_, he, fun v q => nomatch q⟩
    · rw [z]; exact ⟨o, ho, fun v q => by rw [hd] at q; cases q⟩
  keep := fun i h h' st k => let ⟨⟨old, he⟩, hi, hne⟩ := st; ⟨⟨old, k e (by simp) _ he⟩, hi.at fun o q => k it (by simp) o q, hne⟩
  item := by
    intro X hP hw hK hc i pins s σ H E I hf st hg
    subst hP hw hK
    obtain ⟨⟨old, he⟩, hit, hne⟩ := st
    obtain ⟨xs, x, hq, hx⟩ := hg
    obtain ⟨its, rv, p, hz⟩ := I.tuple hq
    obtain ⟨u, hu, ru⟩ := rv.get hx
    have hel : e < s.heap.objs.size := Heap.lt_size he
    have hil : it < s.heap.objs.size := by obtain ⟨_, q, _⟩ := hit; exact Heap.lt_size q
    have hit0 := hit
    have hta : it ≠ a := by
      intro z
      obtain ⟨o, q, c, _⟩ := hit
      obtain ⟨o2, q2, c2, _⟩ := p
      rw [z, q2] at q
      cases q
      rw [c2] at c
      exact absurd c (by simp)
    have hea : e ≠ a := by
      intro z
      have q := he
      obtain ⟨o2, q2, c2, _⟩ := p
      rw [z] at q
      have q' : s.heap.get? a = some _ := q
      rw [q2] at q'
      have c : o2.cls = .type "enumerate" := by
        have := Option.some.inj q'
        rw [this]
      rw [c2] at c
      exact absurd c (by simp)
    refine wpAny_pyNext_enum_itemD (A := X.A) (Draws.tuple (A := X.A.in1) (I.ok.hd hc) it a (Ne.symm hta) its.toArray) he ⟨hit, p⟩ (by
      have := (List.getElem?_eq_some_iff.mp hu).1
      simpa using this) hne (by simp [hne, hea]) fun u' h' tk hP ho hst' hT hsz hk => ?_
    have hu' : its.toArray[i]? = some u' := hP
    have eu : u' = u := by
      have h1 : its[i]? = some u' := by simpa using hu'
      rw [hu] at h1
      exact (Option.some.inj h1).symm
    subst eu
    refine ⟨_, rfl, wpAny_letOwnedTupleGo_enum (s := { s with heap := h', toks := tk + 1 }) ho fun h'' he' sb => ?_⟩
    have hT2 : h''.get? s.heap.objs.size = some { cls := .type "tuple", data := .seq #[.int i tk, u'] } := (sb.2 _ (Nat.ne_of_gt hel)).trans hT
    have new : ObjOk X.prog X.w (upd H s.heap.objs.size (.tup [.int (i : Nat), x])) h'' s.heap.objs.size (.tup [.int (i : Nat), x]) :=
      ⟨by show 2 ≤ sizeLine; decide, [.int i tk, u'], .cons ⟨_, rfl⟩ (.cons ru .nil), ⟨_, hT2, rfl, _, rfl⟩⟩
    have I1 : Inv X pins σ (upd H s.heap.objs.size (.tup [.int (i : Nat), x])) { s with heap := h'', toks := tk + 1 } :=
      I.turnedNew (ch := [e, it]) (fun b ob hb q => (sb.2 b (fun z => hb (by simp [z]))).trans (hk b ob (fun z => hb (by simp [z])) (fun z => hb (by simp [z])) q)) hf (Nat.le_refl _) new
    refine ⟨.ref s.heap.objs.size, _, I1, rfl, ⟨_, x, rfl, I.hok.fresh (Nat.le_refl _), rfl, fun ys hy => by rw [I.tuple_inj hy hq]; exact hx⟩, ⟨⟨u', ?_⟩, hst'.1.at fun o q => (sb.2 it (Ne.symm hne)).trans q, hne⟩, fun b hb => ?_⟩
    · have e1 : ((i + 1 : Nat) : Int) = (i : Int) + 1 := by omega
      rw [e1]; exact he'
    · have hb' : b < s.heap.objs.size := by
        have e' : b = e ∨ b = it := by simpa using hb
        rcases e' with z | z
        · rw [z]; exact hel
        · rw [z]; exact hil
      rw [upd_ne (Nat.ne_of_lt hb')]
      exact (hf b hb).1
  done := by
    intro X hP hw hK hc i pins s σ H E I hf st hg
    subst hP hw hK
    obtain ⟨⟨old, he⟩, hit, hne⟩ := st
    obtain ⟨xs, hq, hx⟩ := hg
    obtain ⟨its, rv, p, hz⟩ := I.tuple hq
    obtain ⟨f0, f1, f2, f3, f4, f5⟩ := hf it (by simp)
    have hl := rv.length
    have hta : it ≠ a := by
      intro z
      obtain ⟨o, q, c, _⟩ := hit
      obtain ⟨o2, q2, c2, _⟩ := p
      rw [z, q2] at q
      cases q
      rw [c2] at c
      exact absurd c (by simp)
    have hst : s.heap.IsTupleIter it a its.toArray.size ∧ s.heap.IsTuple a its.toArray := ⟨by
      have e1 : its.toArray.size = i := by simp; omega
      rw [e1]; exact hit, p⟩
    exact wpAny_pyNext_enum_endD (A := X.A) (Draws.tuple (A := X.A.in1) (I.ok.hd hc) it a (Ne.symm hta) its.toArray) he hst fun h' eb => ⟨rfl, I.turned (t' := s.toks) (fun b o hb q => eb b o hb q) f0 f1 f3 f4 f5⟩
  self := fun A i s Q E st h => let ⟨⟨_, he⟩, _⟩ := st; wpAny_pyIter_enum he h
/-! ### what is walked, by the evaluator -/
/-- the iterator gives these items -/
def ItR (C : CI) (K : PySem.W.Frag) (H : Hp) (al : AL) (xs : List D) (J : It) : Prop :=
  ∀ al' H' h', Ext0 al H al' H' → RepH C K H' al' h' → (∀ (i : Nat) (x : D), xs[i]? = some x → J.go i H' ∧ ∀ v H'', J.yld i H' v H'' → (H'' = H' ∨ ∃ q o, H' q = none ∧ H'' = upd H' q o) ∧ Rep C K H'' al' x v) ∧ J.stop xs.length H'
def rI (C : CI) (K : PySem.W.Frag) : Rl (List D) It := ⟨fun _ al' H' _ xs J => ItR C K H' al' xs J, fun _ q => q⟩
abbrev iT (C : CI) (K : PySem.W.Frag) (W : WX) (m : Env → AH → R (List D)) : TI := tG C K (rI C K) W m
theorem _root_.L2.PI.imp {X : Cx} {tg e : Expr} {t t' : TI} (h : PI X tg e t) (i : ∀ σ H Q, t' σ H Q → t σ H Q) : PI X tg e t' := ⟨fun pins s σ H Q I q => h.run pins s σ H Q I (i σ H Q q)⟩
section
variable {C : CI} {X : Cx} {W : WX} {tg a b : Expr} {ma mb : Env → AH → R DF} {pos : Pos}
theorem pi_seq {l : Expr} {tl : TE} (hl : PE X l tl) : PI X tg l (fun σ H R => tl σ H fun x H1 => ∃ a xs, x = .ref a ∧ ((SqL X.K H1 a xs ∧ R (Itl X.K a) H1) ∨ (SqT X.K H1 a xs ∧ R (Itt X.K a) H1))) := by
  refine ⟨fun pins s σ H R I h => ?_⟩
  refine thn (hl.run pins s σ H _ I h) fun v s1 ⟨x, H1, I1, r1, q1⟩ => ?_
  obtain ⟨a, xs, e, q⟩ := q1
  subst e
  cases r1
  rcases q with ⟨hq, q⟩ | ⟨hq, q⟩
  · obtain ⟨its, rv, p, hz⟩ := I1.list hq
    refine wpAny_pyIter_list p.isList ?_
    refine ⟨s1.heap.objs.size, [s1.heap.objs.size], _, _, H1, rfl, I1.kept (t' := s1.toks) fun b o e => Heap.get?_push_of_some _ e, turn_list a _, ⟨_, Heap.get?_push_size _ rfl, rfl, rfl⟩, fun b hb => ?_, q⟩
    have e : b = s1.heap.objs.size := by simpa using hb
    subst e
    exact I1.fpOk (Nat.le_refl _) (I1.hok.fresh (Nat.le_refl _))
  · obtain ⟨its, rv, p, hz⟩ := I1.tuple hq
    refine wpAny_pyIter_tuple (show s1.heap.IsTuple a its.toArray from p) ?_
    refine ⟨s1.heap.objs.size, [s1.heap.objs.size], _, _, H1, rfl, I1.kept (t' := s1.toks) fun b o e => Heap.get?_push_of_some _ e, turn_tuple a _, ⟨_, Heap.get?_push_size _ rfl, rfl, rfl⟩, fun b hb => ?_, q⟩
    have e : b = s1.heap.objs.size := by simpa using hb
    subst e
    exact I1.fpOk (Nat.le_refl _) (I1.hok.fresh (Nat.le_refl _))
theorem pi_enumA {e : Expr} {ta : TA} {p tpos : Pos} {elts : List Expr} {kk : Nat} (hg : Gl X "enumerate") (hm : X.mg "enumerate" = none) (ha : PA X [e] ta) (hs : starEach [e] X.env = [(false, eval e X.env)]) :
    PI X (.Tuple elts kk tpos) (.Call (.Name "enumerate" p) [e] [] pos) (fun σ H R => ta σ H fun vs H1 => ∃ a xs, vs = [.ref a] ∧ ((SqL X.K H1 a xs ∧ R (Ite X.K a) H1) ∨ (SqT X.K H1 a xs ∧ R (IteT X.K a) H1))) := by
  refine ⟨fun pins s σ H R I h => ?_⟩
  refine Call_ (ld_blt I hg hm boot_enumerate (PyProof.Rows.callWith_type1 (thn (ha.run pos pins s σ H _ I h) fun us s1 ⟨vs, H1, I1, r1, q1⟩ => ?_) hs rfl))
  obtain ⟨a, xs, ex, q⟩ := q1
  subst ex
  have fp : ∀ {h' : Heap} {s' : Shared}, ∀ b ∈ [s1.heap.objs.size + 1, s1.heap.objs.size], FpOk X pins H1 b := fun b hb => by
    have e' : b = s1.heap.objs.size + 1 ∨ b = s1.heap.objs.size := by simpa using hb
    have hle : s1.heap.objs.size ≤ b := by
      rcases e' with z | z
      · rw [z]; exact Nat.le_add_right _ _
      · rw [z]; exact Nat.le_refl _
    exact I1.fpOk hle (I1.hok.fresh hle)
  cases r1 with
  | cons r rr =>
    cases rr
    cases r
    rcases q with ⟨hq, q⟩ | ⟨hq, q⟩
    · obtain ⟨its, rv, p', hz⟩ := I1.list hq
      refine call_enumerate_list p'.isList fun h' he hit hsz hk => wpAny_pyIter_enum he ?_
      have I2 : Inv X pins σ H1 { s1 with heap := h' } := I1.kept (t' := s1.toks) hk
      exact ⟨s1.heap.objs.size + 1, [s1.heap.objs.size + 1, s1.heap.objs.size], _, _, H1, rfl, I2, turn_enum a (s1.heap.objs.size + 1) s1.heap.objs.size, ⟨⟨.none, he⟩, hit, Nat.succ_ne_self _⟩, fp (h' := h') (s' := s1), q⟩
    · obtain ⟨its, rv, p', hz⟩ := I1.tuple hq
      refine rw_call_enum_tuple (show s1.heap.IsTuple a its.toArray from p') fun h' he hit hsz hk => wpAny_pyIter_enum he ?_
      have I2 : Inv X pins σ H1 { s1 with heap := h' } := I1.kept (t' := s1.toks) hk
      exact ⟨s1.heap.objs.size + 1, [s1.heap.objs.size + 1, s1.heap.objs.size], _, _, H1, rfl, I2, turn_enumT a (s1.heap.objs.size + 1) s1.heap.objs.size, ⟨⟨.none, he⟩, hit, Nat.succ_ne_self _⟩, fp (h' := h') (s' := s1), q⟩
theorem sq_stays {K : PySem.W.Frag} {H : Hp} {al : AL} {h : AH} {d : D} {v : V} {xs : List D} (r : Rep C K H al d v) (im : imm d = true) (e : items h d = some xs) :
    ∃ p vs, v = .ref p ∧ RepL C K H al xs vs ∧ ((∀ al' H', Ext0 al H al' H' → SqL K H' p vs) ∨ (∀ al' H', Ext0 al H al' H' → SqT K H' p vs)) := by
  cases d with
  | tup ys =>
    cases e
    obtain ⟨p, vs, rfl, hp, rl⟩ := r
    exact ⟨p, vs, rfl, rl, .inr fun al' H' x => (hp.ext x.toExtW).sq⟩
  | lst ys =>
    cases e
    obtain ⟨p, vs, rfl, ⟨hp, hn⟩, rl⟩ := r
    exact ⟨p, vs, rfl, rl, .inl fun al' H' x => .inl (.inl (x.keep _ _ hp hn))⟩
  | ktp ys =>
    cases e
    obtain ⟨p, vs, rfl, hp, rl⟩ := r
    exact ⟨p, vs, rfl, rl, .inr fun al' H' x => .inr hp⟩
  | scr ns =>
    cases e
    obtain ⟨p, rfl, hp⟩ := r
    exact ⟨p, _, rfl, RepL.ints ns, .inl fun al' H' x => (hp.ext x.toExtW).sq⟩
  | ref n => cases im
  | _ => cases e
theorem itR_list {K : PySem.W.Frag} {H : Hp} {al : AL} {p : Addr} {vs : List V} {xs : List D} (rl : RepL C K H al xs vs) (st : ∀ al' H', Ext0 al H al' H' → SqL K H' p vs) : ItR C K H al xs (Itl K p) := by
  intro al' H' h' x rh
  refine ⟨fun i d e => ?_, vs, st al' H' x, by rw [rl.length]; exact Nat.le_refl _⟩
  obtain ⟨v, ev, rv⟩ := rl.get e
  refine ⟨⟨vs, v, st al' H' x, ev⟩, fun w H'' y => ?_⟩
  obtain ⟨rfl, y⟩ := y
  have := y vs (st al' _ x)
  rw [ev] at this
  cases this
  exact ⟨.inl rfl, Rep.ext x _ rv⟩
theorem itR_tup {K : PySem.W.Frag} {H : Hp} {al : AL} {p : Addr} {vs : List V} {xs : List D} (rl : RepL C K H al xs vs) (st : ∀ al' H', Ext0 al H al' H' → SqT K H' p vs) : ItR C K H al xs (Itt K p) := by
  intro al' H' h' x rh
  refine ⟨fun i d e => ?_, vs, st al' H' x, by rw [rl.length]; exact Nat.le_refl _⟩
  obtain ⟨v, ev, rv⟩ := rl.get e
  refine ⟨⟨vs, v, st al' H' x, ev⟩, fun w H'' y => ?_⟩
  obtain ⟨rfl, y⟩ := y
  have := y vs (st al' _ x)
  rw [ev] at this
  cases this
  exact ⟨.inl rfl, Rep.ext x _ rv⟩
/-- the answer of an iterator's reading -/
theorem Post.it {K : PySem.W.Frag} {H : Hp} {al : AL} {h : AH} {xs : List D} {J : It} {Q : It → Hp → Prop} {E : XK} (p : Post C K al H (rI C K) (.ok xs h) Q E) (rh : RepH C K H al h) (r : ItR C K H al xs J) : Q J H := p al H J (Ext.refl _ _) rh r
theorem si_sq (ha : PE X a (tE C X.K W ma)) : PI X tg a (iT C X.K W fun env h => (ma env h).bind fun d h1 => if imm d.1 then opt h1 (items h1 d.1) else .bad) := by
  refine (pi_seq ha).imp fun σ H Q h => (tG.bind (rl := rF C X.K) (f := fun _ d h1 => if imm d.1 then opt h1 (items h1 d.1) else .bad) h).imp fun v H1 q => ?_
  obtain ⟨al, env, h1, x, H0, rh, re, rx, p⟩ := q
  split at p
  · rename_i im
    obtain ⟨xs, e, p⟩ := p.opt
    obtain ⟨q, vs, rfl, rl, st⟩ := sq_stays rx.1 im e
    refine ⟨q, vs, rfl, ?_⟩
    rcases st with st | st
    · exact .inl ⟨st al H1 (Ext.refl _ _).toExt0, p.it rh (itR_list rl st)⟩
    · exact .inr ⟨st al H1 (Ext.refl _ _).toExt0, p.it rh (itR_tup rl st)⟩
  · exact p.elim
theorem rgL_get {a b : Int} {i : Nat} {d : D} (e : (rgL a b)[i]? = some d) : i < (b - a).toNat ∧ d = .int (a + i) := by
  unfold rgL at e
  rw [List.getElem?_map] at e
  obtain ⟨j, e1, rfl⟩ := Option.map_eq_some_iff.mp e
  obtain ⟨h1, h2⟩ := List.getElem?_eq_some_iff.mp e1
  have h3 : i < (b - a).toNat := by simpa using h1
  have h4 : j = i := by rw [← h2]; simp
  exact ⟨h3, by rw [h4]⟩
theorem itR_rng {K : PySem.W.Frag} {H : Hp} {al : AL} (a b : Int) : ItR C K H al (rgL a b) (Itr a (b - a).toNat) := by
  intro al' H' h' x rh
  refine ⟨fun i d e => ?_, ?_⟩
  · obtain ⟨h1, rfl⟩ := rgL_get e
    refine ⟨h1, fun v H'' y => ?_⟩
    obtain ⟨rfl, rfl⟩ := y
    exact ⟨.inl rfl, rfl⟩
  · show _ ≤ (rgL a b).length
    simp [rgL]
theorem rgOk_b {a b : Int} (h : rgOk a b = true) : (-1000000 ≤ a ∧ a ≤ 1000000) ∧ -1000000 ≤ b ∧ b ≤ 1000000 := by
  simpa [rgOk, and_assoc] using h
theorem si_rg1 {p : Pos} (hg : Gl X "range") (hm : X.mg "range" = none) (ha : PE X a (tE C X.K W ma)) (hs : noStar a = true) :
    PI X tg (.Call (.Name "range" p) [a] [] pos) (iT C X.K W fun env h => (ma env h).bind fun d h1 => (match d.1 with | .int n => if rgOk 0 n then .ok (rgL 0 n) h1 else .bad | _ => .bad)) := by
  refine (pi_range1 hg hm (pa_cons ha pa_nil (star1 hs)) (star1 hs)).imp fun σ H Q h => (tG.bind (rl := rF C X.K) (f := fun _ d h1 => match d.1 with | .int n => if rgOk 0 n then .ok (rgL 0 n) h1 else .bad | _ => .bad) h).imp fun v H1 q => ?_
  obtain ⟨al, env, h1, x, H0, rh, re, rx, p⟩ := q
  split at p
  · rename_i n e
    split at p
    · rename_i hr
      have hv : v = .int n := by
        have := rx.1
        rw [e] at this
        exact this
      have := rgOk_b hr
      refine ⟨n, by rw [hv], by omega, by omega, ?_⟩
      have e2 : n.toNat = (n - 0).toNat := by simp
      rw [e2]
      exact p.it rh (itR_rng 0 n)
    · exact p.elim
  · exact p.elim
theorem si_rg2 {p : Pos} (hg : Gl X "range") (hm : X.mg "range" = none) (ha : PE X a (tE C X.K W ma)) (hb : PE X b (tE C X.K W mb)) (hs : noStar a = true) (hs2 : noStar b = true) :
    PI X tg (.Call (.Name "range" p) [a, b] [] pos) (iT C X.K W fun env h => (ma env h).bind fun d h1 => (mb env h1).bind fun d2 h2 => (match d.1, d2.1 with | .int m, .int n => if rgOk m n then .ok (rgL m n) h2 else .bad | _, _ => .bad)) := by
  refine (pi_range2 hg hm (pa_cons ha (pa_cons hb pa_nil (star1 hs2)) (star1 hs)) (by rw [star1 hs, star1 hs2]; rfl) (star1 hs2)).imp fun σ H Q h => ?_
  obtain ⟨al, env, hh, rh, re, p⟩ := h
  refine ⟨al, env, hh, rh, re, (Post.bind (rl := rF C X.K) p).imp (fun v H1 q => ?_) fun _ _ _ q => q⟩
  obtain ⟨al1, h1, x, _, ex, rh1, rx, p1⟩ := q
  refine ⟨al1, env, h1, rh1, re.ext ex, (Post.bind (rl := rF C X.K) p1).imp (fun w H2 q => ?_) fun _ _ _ q => q⟩
  obtain ⟨al2, h2, y, _, ex2, rh2, ry, p2⟩ := q
  split at p2
  · rename_i m n e e2
    split at p2
    · rename_i hr
      have hv : v = .int m := by
        have := rx.1
        rw [e] at this
        exact this
      have hw : w = .int n := by
        have := ry.1
        rw [e2] at this
        exact this
      have := rgOk_b hr
      refine ⟨m, n, by rw [hv, hw], ⟨by omega, by omega, by omega, by omega⟩, ?_⟩
      exact p2.it rh2 (itR_rng m n)
    · exact p2.elim
  · exact p2.elim
theorem enL_get : ∀ {xs : List D} {n i : Nat} {d : D}, (enL xs n)[i]? = some d → ∃ x, xs[i]? = some x ∧ d = .tup [.int ((n + i : Nat) : Int), x]
  | [], n, i, d, e => by simp [enL] at e
  | x :: xs, n, 0, d, e => by
    cases e
    exact ⟨x, rfl, rfl⟩
  | x :: xs, n, i + 1, d, e => by
    obtain ⟨y, h1, h2⟩ := enL_get (xs := xs) (n := n + 1) (i := i) e
    exact ⟨y, h1, by rw [h2]; congr 4; omega⟩
theorem enL_len : ∀ {xs : List D} {n : Nat}, (enL xs n).length = xs.length
  | [], _ => rfl
  | x :: xs, n => by simp [enL, enL_len]
theorem itR_en {K : PySem.W.Frag} {H : Hp} {al : AL} {p : Addr} {vs : List V} {xs : List D} (rl : RepL C K H al xs vs) (st : ∀ al' H', Ext0 al H al' H' → SqL K H' p vs) : ItR C K H al (enL xs 0) (Ite K p) := by
  intro al' H' h' x rh
  refine ⟨fun i d e => ?_, vs, st al' H' x, by rw [enL_len, rl.length]; exact Nat.le_refl _⟩
  obtain ⟨z, ez, rfl⟩ := enL_get e
  obtain ⟨v, ev, rv⟩ := rl.get ez
  refine ⟨⟨vs, v, st al' H' x, ev⟩, fun w H'' y => ?_⟩
  obtain ⟨q, w', rfl, hn, rfl, y⟩ := y
  have := y vs (st al' _ x)
  rw [ev] at this
  cases this
  rw [Nat.zero_add]
  exact ⟨.inr ⟨q, _, hn, rfl⟩, rep_tup rh hn ⟨_, _, rfl, rfl, v, [], rfl, Rep.ext x _ rv, rfl⟩⟩
theorem itR_enT {K : PySem.W.Frag} {H : Hp} {al : AL} {p : Addr} {vs : List V} {xs : List D} (rl : RepL C K H al xs vs) (st : ∀ al' H', Ext0 al H al' H' → SqT K H' p vs) : ItR C K H al (enL xs 0) (IteT K p) := by
  intro al' H' h' x rh
  refine ⟨fun i d e => ?_, vs, st al' H' x, by rw [enL_len, rl.length]⟩
  obtain ⟨z, ez, rfl⟩ := enL_get e
  obtain ⟨v, ev, rv⟩ := rl.get ez
  refine ⟨⟨vs, v, st al' H' x, ev⟩, fun w H'' y => ?_⟩
  obtain ⟨q, w', rfl, hn, rfl, y⟩ := y
  have := y vs (st al' _ x)
  rw [ev] at this
  cases this
  rw [Nat.zero_add]
  exact ⟨.inr ⟨q, _, hn, rfl⟩, rep_tup rh hn ⟨_, _, rfl, rfl, v, [], rfl, Rep.ext x _ rv, rfl⟩⟩
theorem si_en {p tpos : Pos} {elts : List Expr} {kk : Nat} (hg : Gl X "enumerate") (hm : X.mg "enumerate" = none) (ha : PE X a (tE C X.K W ma)) (hs : noStar a = true) :
    PI X (.Tuple elts kk tpos) (.Call (.Name "enumerate" p) [a] [] pos) (iT C X.K W fun env h => (ma env h).bind fun d h1 => if imm d.1 then opt h1 ((items h1 d.1).map fun xs => enL xs 0) else .bad) := by
  refine (pi_enumA hg hm (pa_cons ha pa_nil (star1 hs)) (star1 hs)).imp fun σ H Q h => (tG.bind (rl := rF C X.K) (f := fun _ d h1 => if imm d.1 then opt h1 ((items h1 d.1).map fun xs => enL xs 0) else .bad) h).imp fun v H1 q => ?_
  obtain ⟨al, env, h1, x, H0, rh, re, rx, p⟩ := q
  split at p
  · rename_i im
    obtain ⟨ys, e, p⟩ := p.opt
    obtain ⟨xs, e', rfl⟩ := Option.map_eq_some_iff.mp e
    obtain ⟨q, vs, rfl, rl, st⟩ := sq_stays rx.1 im e'
    refine ⟨q, vs, rfl, ?_⟩
    rcases st with st | st
    · exact .inl ⟨st al H1 (Ext.refl _ _).toExt0, p.it rh (itR_en rl st)⟩
    · exact .inr ⟨st al H1 (Ext.refl _ _).toExt0, p.it rh (itR_enT rl st)⟩
  · exact p.elim
/-! ### list(range(..)), tuple(range(..)) -/
theorem rgV_eq (a b : Int) : RepL C X.K H al (rgL a b) (rgV a b) := RepL.map (f := fun i : Nat => D.int (a + (i : Nat))) (g := fun i : Nat => V.int (a + (i : Nat))) (fun _ => rfl) _
theorem rg_ok {a b : Int} (h : rgOk a b = true) : RgOk a b := by
  have := rgOk_b h
  exact ⟨by omega, by omega, by omega, by omega, by omega⟩
abbrev rg1M (ma : Env → AH → R DF) (env : Env) (h : AH) : R (List D) := (ma env h).bind fun d h1 => (match d.1 with | .int n => if rgOk 0 n then .ok (rgL 0 n) h1 else .bad | _ => .bad)
abbrev rg2M (ma mb : Env → AH → R DF) (env : Env) (h : AH) : R (List D) := (ma env h).bind fun d h1 => (mb env h1).bind fun d2 h2 => (match d.1, d2.1 with | .int m, .int n => if rgOk m n then .ok (rgL m n) h2 else .bad | _, _ => .bad)
/-- a range's two ends -/
def rR (C : CI) (K : PySem.W.Frag) : Rl (List D) (Int × Int) := ⟨fun _ _ _ _ xs p => xs = rgL p.1 p.2 ∧ rgOk p.1 p.2 = true, fun _ q => q⟩
theorem lift_rg1 {σ : L2.St} {H : Hp} {Q : Int × Int → Hp → Prop} (h : tG C X.K (rR C X.K) W (rg1M ma) σ H Q) : tRg1 (tE C X.K W ma) σ H fun i j H1 => Q (i, j) H1 := by
  refine (tG.bind (rl := rF C X.K) (f := fun _ d h1 => match d.1 with | .int n => if rgOk 0 n then .ok (rgL 0 n) h1 else .bad | _ => .bad) h).imp fun v H1 q => ?_
  obtain ⟨al, env, h1, x, H0, rh, re, rx, p⟩ := q
  split at p
  · rename_i n e
    split at p
    · rename_i hr
      have hv : v = .int n := by
        have := rx.1
        rw [e] at this
        exact this
      exact ⟨n, hv, p al H1 (0, n) (Ext.refl _ _) rh ⟨rfl, hr⟩⟩
    · exact p.elim
  · exact p.elim
theorem lift_rg2 {σ : L2.St} {H : Hp} {Q : Int × Int → Hp → Prop} (h : tG C X.K (rR C X.K) W (rg2M ma mb) σ H Q) : tRg2 (tE C X.K W ma) (tE C X.K W mb) σ H fun i j H1 => Q (i, j) H1 := by
  obtain ⟨al, env, hh, rh, re, p⟩ := h
  refine ⟨al, env, hh, rh, re, (Post.bind (rl := rF C X.K) p).imp (fun v H1 q => ?_) fun _ _ _ q => q⟩
  obtain ⟨al1, h1, x, _, ex, rh1, rx, p1⟩ := q
  refine ⟨al1, env, h1, rh1, re.ext ex, (Post.bind (rl := rF C X.K) p1).imp (fun w H2 q => ?_) fun _ _ _ q => q⟩
  obtain ⟨al2, h2, y, _, ex2, rh2, ry, p2⟩ := q
  split at p2
  · rename_i m n e e2
    split at p2
    · rename_i hr
      have hv : v = .int m := by
        have := rx.1
        rw [e] at this
        exact this
      have hw : w = .int n := by
        have := ry.1
        rw [e2] at this
        exact this
      exact ⟨m, n, hv, hw, p2 al2 H2 (m, n) (Ext.refl _ _) rh2 ⟨rfl, hr⟩⟩
    · exact p2.elim
  · exact p2.elim
abbrev lrgM (t : Bool) (m : Env → AH → R (List D)) (env : Env) (h : AH) : R DF := (m env h).bind fun xs h1 => .ok (if t then (.tup xs, false) else (.lst xs, true)) h1
theorem lift_lrg {m : Env → AH → R (List D)} {σ : L2.St} {H : Hp} {Q : VK} {t : Bool} (h : tE C X.K W (lrgM t m) σ H Q) : tG C X.K (rR C X.K) W m σ H fun p H1 => RgOk p.1 p.2 ∧ ∀ q, H1 q = none → Q (.ref q) (upd H1 q (if t then .tup (rgV p.1 p.2) else .lst (rgV p.1 p.2))) := by
  refine (tG.bind (rl := rR C X.K) (f := fun _ xs h1 => R.ok (if t then ((.tup xs, false) : DF) else (.lst xs, true)) h1) h).imp fun v H1 q => ?_
  obtain ⟨al, env, h1, x, H0, rh, re, ⟨rfl, hr⟩, p⟩ := q
  refine ⟨rg_ok hr, fun q hq => ?_⟩
  cases t with
  | true => exact p.new rh hq (rep_tup rh hq (rgV_eq _ _)) fun z => nomatch z
  | false => exact p.new rh hq (rep_lst rh hq (rgV_eq _ _)) fun _ => rgV_eq _ _
theorem se_lrg1 {t : Bool} {p p2 pos2 : Pos} (hc : X.calm = true) (hg : Gl X (if t then "tuple" else "list")) (hm : X.mg (if t then "tuple" else "list") = none) (hg2 : Gl X "range") (hm2 : X.mg "range" = none) (ha : PE X a (tE C X.K W ma)) (hs : noStar a = true) :
    PE X (.Call (.Name (if t then "tuple" else "list") p) [.Call (.Name "range" p2) [a] [] pos2] [] pos) (tE C X.K W (lrgM t (rg1M ma))) := by
  cases t with
  | true => exact (pe_tupRg hc hg hm (prg_1 hg2 hm2 ha (star1 hs)) (star1 rfl)).imp fun σ H Q h => lift_rg1 (lift_lrg h)
  | false => exact (pe_listRg hc hg hm (prg_1 hg2 hm2 ha (star1 hs)) (star1 rfl)).imp fun σ H Q h => lift_rg1 (lift_lrg h)
theorem se_lrg2 {t : Bool} {p p2 pos2 : Pos} (hc : X.calm = true) (hg : Gl X (if t then "tuple" else "list")) (hm : X.mg (if t then "tuple" else "list") = none) (hg2 : Gl X "range") (hm2 : X.mg "range" = none) (ha : PE X a (tE C X.K W ma)) (hb : PE X b (tE C X.K W mb)) (hs : noStar a = true) (hs2 : noStar b = true) :
    PE X (.Call (.Name (if t then "tuple" else "list") p) [.Call (.Name "range" p2) [a, b] [] pos2] [] pos) (tE C X.K W (lrgM t (rg2M ma mb))) := by
  have hA : (backTo pos2 (starEach [b] X.env)).any (·.1) = false := star_any (by simp [hs2])
  cases t with
  | true => exact (pe_tupRg hc hg hm (prg_2 hg2 hm2 ha hb (star1 hs) (star1 hs2) hA) (star1 rfl)).imp fun σ H Q h => lift_rg2 (lift_lrg h)
  | false => exact (pe_listRg hc hg hm (prg_2 hg2 hm2 ha hb (star1 hs) (star1 hs2) hA) (star1 rfl)).imp fun σ H Q h => lift_rg2 (lift_lrg h)
end
end Rw
end

section
set_option Elab.async false
set_option linter.all false
set_option maxRecDepth 100000
set_option maxHeartbeats 4000000
/-! RfC: list comprehensions. -/
namespace Rw
open PySem PySem.Spec PyProof.Rows L2
theorem wipe_idem {σ : L2.St} : ∀ (vs : List Nat), wipe (wipe σ vs) vs = wipe σ vs
  | vs => by
    have key : ∀ (us ws : List Nat), (∀ v ∈ us, v ∈ ws) → wipe (wipe σ us) ws = wipe σ ws := by
      intro us
      induction us with
      | nil => intro ws _; rfl
      | cons u us ih =>
        intro ws h
        show wipe ((wipe σ us).set u none) ws = _
        rw [wipe_set (h u (List.mem_cons_self ..)), ih ws fun v hv => h v (List.mem_cons_of_mem _ hv)]
    exact key vs vs fun _ h => h
theorem RepE.wipe {C : CI} {K : PySem.W.Frag} {H : Hp} {al : AL} {env : Env} {σ : L2.St} (r : RepE C K H al env σ) : ∀ vs : List Nat, RepE C K H al (wipeE env vs) (L2.wipe σ vs)
  | [] => r
  | v :: vs => (RepE.wipe r vs).unset v
theorem lcEv_cons {β : Type} {body : D → AH → R (Option β)} {x : D} {xs : List D} {h hE : AH} {ys : List β} (e : lcEv body (x :: xs) h = .ok ys hE) : ∃ y h1 zs, body x h = .ok y h1 ∧ lcEv body xs h1 = .ok zs hE ∧ ys = (match y with | some y => y :: zs | none => zs) := by
  obtain ⟨y, h1, e1, e⟩ := R.bind_ok e
  obtain ⟨zs, h2, e2, e⟩ := R.bind_ok e
  cases e
  exact ⟨y, h1, zs, e1, e2, rfl⟩
theorem nox_ok {α : Type} {r : R α} {a : α} {h : AH} (e : r.nox = .ok a h) : r = .ok a h := by
  cases r <;> first | exact e | cases e
section
variable {C : CI} {K : PySem.W.Frag} {al : AL} {H : Hp} {h : AH} {D : Addr} {o : HO}
theorem ExtD.prep (e : H D = none) : Ext0 al H (al.gd D) (upd H D o) := Ext0.guard e
/-- what the iterator gives may be new -/
theorem yld_ext {H' : Hp} (rh : RepH C K H al h) (y : H' = H ∨ ∃ q o, H q = none ∧ H' = upd H q o) : Ext al H al H' ∧ RepH C K H' al h := by
  rcases y with rfl | ⟨q, o, hn, rfl⟩
  · exact ⟨Ext.refl _ _, rh⟩
  · exact ⟨Ext.new hn, rh.new hn⟩
/-- the heap without D -/
def hid (H : Hp) (D : Addr) : Hp := fun b => if b = D then none else H b
theorem hid_ne {b : Addr} (h : b ≠ D) : hid H D b = H b := if_neg h
theorem hid_same : hid H D D = none := if_pos rfl
theorem hid_upd (e : H D = some o) : H = upd (hid H D) D o := by
  funext b
  unfold upd hid
  by_cases hb : b = D
  · rw [if_pos hb, hb, e]
  · rw [if_neg hb, if_neg hb]
theorem ExtW.hid {g : List Addr} (e : al.g = D :: g) : ExtW al H ⟨al.r, g⟩ (Rw.hid H D) where
  len := Nat.le_refl _
  old := fun n q z => .inl ⟨lt_of_at z, z⟩
  kp := fun b u z n => by rw [hid_ne (fun y => n (.inr (by rw [e, y]; exact List.mem_cons_self ..)))]; exact z
  gd := fun q hq => .inl (by rw [e]; exact List.mem_cons_of_mem _ hq)
theorem RepH.hid {g : List Addr} (r : RepH C K H al h) (e : al.g = D :: g) (hg : D ∉ g) : RepH C K (Rw.hid H D) ⟨al.r, g⟩ h where
  len := r.len
  inj := r.inj
  dis := fun q hq z => r.dis q (by rw [e]; exact List.mem_cons_of_mem _ hq) z
  trk := fun q a z => by
    have hq : q ≠ D := by
      rintro rfl
      rcases a with a | a
      · exact r.dis q (by rw [e]; exact List.mem_cons_self ..) a
      · exact hg a
    rw [hid_ne hq] at z
    exact r.trk q (by
      rcases a with a | a
      · exact .inl a
      · exact .inr (by rw [e]; exact List.mem_cons_of_mem _ a)) z
  nt := fun q a vs z => by
    have hq : q ≠ D := by
      rintro rfl
      rcases a with a | a
      · exact r.dis q (by rw [e]; exact List.mem_cons_self ..) a
      · exact hg a
    rw [hid_ne hq] at z
    exact r.nt q (by
      rcases a with a | a
      · exact .inl a
      · exact .inr (by rw [e]; exact List.mem_cons_of_mem _ a)) vs z
  ob := fun n ob q => by
    rcases r.ob n ob q with h1 | ⟨b, h1, h2⟩
    · exact .inl h1
    · have hb : b ≠ D := fun z => r.dis D (by rw [e]; exact List.mem_cons_self ..) ⟨n, z ▸ h1⟩
      exact .inr ⟨b, h1, h2.extW (ExtW.hid e) (hid_ne hb)⟩
  top := r.top
/-- the end of a thing that was filled under a guard -/
theorem fin_guard {al' : AL} {H' : Hp} {h' : AH} {d : Rw.D} {Q : VK} {E : XK} (p : Post C K al H (rF C K) (.ok (d, true) h') Q E) (rh : RepH C K H al h) (hD : H D = none) (x : ExtD D (al.gd D) (upd H D o) al' H') (rh' : RepH C K H' al' h') {u : HO} (eD : H' D = some u)
    (k : Kid C K H' al' d u) : Q (.ref D) H' := by
  have eg : al'.g = D :: al.g := x.ge
  have hg : D ∉ al.g := fun z => rh.trk D (.inr z) hD
  have nD : ¬ At ⟨al'.r, al.g⟩ D := rh'.nReg eg hg
  refine p ⟨al'.r, al.g⟩ H' (.ref D) (x.out hD rh) (rh'.drop eg) ⟨?_, fun _ => ⟨D, hid H' D, u, rfl, hD, hid_same, hid_upd eD, rh'.hid eg hg, ?_⟩⟩
  · cases d with
    | lst xs =>
      cases u with
      | lst vs => exact ⟨D, vs, rfl, ⟨eD, nD⟩, RepL.ext (Ext0.drop eg) _ k⟩
      | _ => exact k.elim
    | dT xs =>
      cases u with
      | dT vs => exact ⟨D, vs, rfl, ⟨eD, nD⟩, RepT.ext (Ext0.drop eg) _ k⟩
      | _ => exact k.elim
    | dI xs =>
      cases u with
      | dK vs => exact ⟨D, vs, rfl, ⟨eD, nD⟩, RepI.ext (Ext0.drop eg) _ k⟩
      | _ => exact k.elim
    | _ => exact k.elim
  · cases d with
    | lst xs =>
      cases u with
      | lst vs => exact RepL.extW (ExtW.hid eg) _ k
      | _ => exact k.elim
    | dT xs =>
      cases u with
      | dT vs => exact RepT.extW (ExtW.hid eg) _ k
      | _ => exact k.elim
    | dI xs =>
      cases u with
      | dK vs => exact RepI.extW (ExtW.hid eg) _ k
      | _ => exact k.elim
    | _ => exact k.elim
end
/-- no exception is wished -/
abbrev W0 : WX := fun _ _ _ _ => False
/-- a clause's test -/
def ttM (C : CI) (K : PySem.W.Frag) : Option (Env → AH → R DF) → TT
  | none => tYes
  | some m => tT C K W0 (truR m)
/-- a turn, by its parts -/
def turnM (asg : D → Env → AH → R Env) (vs : List Nat) (c : Option (Env → AH → R DF)) (e : Env → AH → R DF) (env : Env) (x : D) (h : AH) : R (Option D) :=
  (asg x (wipeE env vs) h).bind fun env1 h1 => match c with
    | none => (e env1 h1).bind fun d h2 => .ok (some d.1) h2
    | some c => (c env1 h1).bind fun b h2 => (match tru h2 b.1 with
      | some true => (e env1 h2).bind fun d h3 => .ok (some d.1) h3
      | some false => .ok none h2
      | none => .bad)
abbrev lcM (mi : Env → AH → R (List D)) (asg : D → Env → AH → R Env) (vs : List Nat) (c : Option (Env → AH → R DF)) (e : Env → AH → R DF) (env : Env) (h : AH) : R DF :=
  (mi env h).bind fun xs h1 => (lcEv (fun x h => (turnM asg vs c e env x h).nox) xs h1).bind fun ys h2 => if ys.length ≤ LN ∧ xs.length ≤ LN then .ok (.lst ys, true) h2 else .bad
section
variable {C : CI} {X : Cx} {W : WX} {mi : Env → AH → R (List D)} {asg : D → Env → AH → R Env} {vs : List Nat} {mc : Option (Env → AH → R DF)} {me : Env → AH → R DF}
theorem lift_lc {σ : L2.St} {H : Hp} {Q : VK} (h : tE C X.K W (lcM mi asg vs mc me) σ H Q) : tLc (iT C X.K W mi) (gT C X.K vs asg) (ttM C X.K mc) (tE C X.K W0 me) vs σ H Q := by
  refine (tG.bind (rl := rI C X.K) (f := fun env xs h1 => (lcEv (fun x h => (turnM asg vs mc me env x h).nox) xs h1).bind fun ys h2 => if ys.length ≤ LN ∧ xs.length ≤ LN then R.ok ((.lst ys, true) : DF) h2 else .bad) h).imp fun J H1 q => ?_
  obtain ⟨al1, env, h1, xs, _, rh1, re1, hJ, p⟩ := q
  have hJ : ItR C X.K H1 al1 xs J := hJ
  cases el : lcEv (fun x h => (turnM asg vs mc me env x h).nox) xs h1 with
  | bad => rw [el] at p; exact p.elim
  | exc y hh =>
    exfalso
    have nx : ∀ (zs : List D) (hz : AH), lcEv (fun x h => (turnM asg vs mc me env x h).nox) zs hz ≠ .exc y hh := by
      intro zs
      induction zs with
      | nil => intro hz e; cases e
      | cons z zs ih =>
        intro hz e
        unfold lcEv at e
        cases e1 : (turnM asg vs mc me env z hz).nox with
        | ok a b =>
          rw [e1] at e
          simp only [R.bind] at e
          cases e2 : lcEv (fun x h => (turnM asg vs mc me env x h).nox) zs b with
          | ok a2 b2 => rw [e2] at e; cases e
          | exc y2 h2 => rw [e2] at e; cases e; exact ih b e2
          | bad => rw [e2] at e; cases e
        | exc y2 h2 => exact nox_nox _ _ _ e1
        | bad => rw [e1] at e; cases e
    exact nx xs h1 el
  | ok total hE =>
    rw [el] at p
    simp only [R.bind] at p
    split at p
    case isFalse => exact p.elim
    case isTrue hlen =>
    intro D hD
    let Pv : Nat → Hp → Prop := fun i H => ∃ al h done acc ys, RepH C X.K H al h ∧ ExtD D (al1.gd D) (upd H1 D (.lst [])) al H ∧ H D = some (.lst acc) ∧ RepL C X.K H al done acc ∧ lcEv (fun x h => (turnM asg vs mc me env x h).nox) (xs.drop i) h = .ok ys hE ∧ done ++ ys = total
    refine ⟨fun i m H => m = xs.length - i ∧ i ≤ xs.length ∧ Pv i H, ⟨xs.length, by simp, Nat.zero_le _, al1.gd D, h1, [], [], total, rh1.guard hD, ExtD.refl, upd_same, rfl, el, rfl⟩, ?_⟩
    rintro i m H ⟨rfl, hi, al, hh, done, acc, ys, rh, ex, eD, rd, elc, edone⟩
    have ex0 : Ext0 al1 H1 al H := (Ext0.guard hD).trans ex.toExt0
    obtain ⟨hgo, hstop⟩ := hJ al H hh ex0 rh
    by_cases hlt : i < xs.length
    · refine .inr ?_
      have hx : xs[i]? = some xs[i] := List.getElem?_eq_getElem hlt
      obtain ⟨go, hy⟩ := hgo i xs[i] hx
      refine ⟨go, Pv (i + 1), fun H' p' => ⟨xs.length - (i + 1), by omega, rfl, hlt, p'⟩, fun v H' yl => ?_⟩
      obtain ⟨yn, rx⟩ := hy v H' yl
      obtain ⟨exy, rh'⟩ := yld_ext rh yn
      rw [List.drop_eq_getElem_cons hlt] at elc
      obtain ⟨y, h2, zs, eb, ez, ey⟩ := lcEv_cons elc
      have eb := nox_ok eb
      obtain ⟨env1, h3, ea, eb⟩ := R.bind_ok eb
      have re0 : RepE C X.K H' al (wipeE env vs) (wipe σ vs) := ((re1.ext ex0).ext exy.toExt0).wipe vs
      refine ⟨al, wipeE env vs, hh, xs[i], rh', re0, rx, ?_⟩
      rw [ea]
      intro al2 H2 σ2 ex2 rh2 re2
      refine ⟨by rw [re2.2, wipe_idem], ?_⟩
      -- the element's end
      have fin : ∀ {al3 : AL} {H3 : Hp} {h4 : AH} {d : DF}, Ext al2 H2 al3 H3 → RepH C X.K H3 al3 h4 → me env1 h4 = .ok d h2 → (done ++ d.1 :: zs = total) → tE C X.K W0 me σ2 H3 fun y H4 => ∃ acc, H4 D = some (.lst acc) ∧ acc.length < sizeLine ∧ Pv (i + 1) (upd H4 D (.lst (acc ++ [y]))) := by
        intro al3 H3 h4 d ex3 rh3 ed et
        refine ⟨al3, env1, h4, rh3, re2.1.ext ex3, ?_⟩
        rw [ed]
        intro al4 H4 w ex4 rh4 rw4
        have exx : Ext al H al4 H4 := ((exy.trans ex2).trans ex3).trans ex4
        have gD : D ∈ al.g := by rw [ex.ge]; exact List.mem_cons_self ..
        have eD4 : H4 D = some (.lst acc) := exx.gk D _ gD eD (rh.dis D gD)
        have gD4 : D ∈ al4.g := by rw [exx.ge]; exact gD
        have hl : done.length = acc.length := rd.length
        refine ⟨acc, eD4, ?_, al4, h2, done ++ [d.1], acc ++ [w], zs, rh4.gput gD4, (ex.then exx).put gD4, upd_same, ?_, ez, by rw [List.append_assoc]; exact et⟩
        · have h1 : done.length + (zs.length + 1) ≤ LN := by rw [← List.length_cons (a := d.1), ← List.length_append, et]; exact hlen.1
          exact Nat.lt_of_lt_of_le (show acc.length < LN by omega) (ln_line (Nat.le_refl _))
        · exact (RepL.ext (Ext0.gput gD4) _ (RepL.ext exx.toExt0 _ rd)).append ⟨w, [], rfl, Rep.ext (Ext0.gput gD4) _ rw4.1, rfl⟩
      cases mc with
      | none =>
        obtain ⟨d, h5, ed, eo⟩ := R.bind_ok (f := fun (d : DF) h2 => R.ok (some d.1) h2) eb
        cases eo
        show tE C X.K W0 me σ2 H2 _
        exact fin (Ext.refl _ _) rh2 ed (by rw [← edone, ey])
      | some c =>
        obtain ⟨b, h5, ec, eo⟩ := R.bind_ok (f := fun (b : DF) h2 => match tru h2 b.1 with | some true => (me env1 h2).bind fun d h3 => R.ok (some d.1) h3 | some false => .ok none h2 | none => .bad) eb
        refine ⟨al2, env1, h3, rh2, re2.1, ?_⟩
        unfold truR
        rw [ec]
        simp only [R.bind]
        split at eo
        · rename_i et
          rw [et]
          obtain ⟨d, h6, ed, eo⟩ := R.bind_ok (f := fun (d : DF) h3 => R.ok (some d.1) h3) eo
          cases eo
          intro al3 H3 k ex3 rh3 ek
          have ek : true = k := ek
          subst ek
          rw [if_pos rfl]
          exact fin ex3 rh3 ed (by rw [← edone, ey])
        · rename_i et
          rw [et]
          cases eo
          intro al3 H3 k ex3 rh3 ek
          have ek : false = k := ek
          subst ek
          rw [if_neg Bool.false_ne_true]
          have exx : Ext al H al3 H3 := (exy.trans ex2).trans ex3
          have gD : D ∈ al.g := by rw [ex.ge]; exact List.mem_cons_self ..
          have eD4 : H3 D = some (.lst acc) := exx.gk D _ gD eD (rh.dis D gD)
          exact ⟨al3, h2, done, acc, zs, rh3, ex.then exx, eD4, RepL.ext exx.toExt0 _ rd, ez, by rw [← edone, ey]⟩
        · cases eo
    · refine .inl ?_
      have e : i = xs.length := by omega
      subst e
      refine ⟨hstop, ?_⟩
      rw [List.drop_length] at elc
      cases elc
      rw [List.append_nil] at edone
      subst edone
      exact fin_guard p rh1 hD ex rh eD rd
theorem se_lc {elt tg iter : Expr} {ifs : List Expr} {scope : Scope} {own : List (Str × Nat)} {pos : Pos} (hc : X.calm = true) (hN : X.N.Nodup) (hi : PI X tg iter (iT C X.K W mi)) (ok : BlkOk X.N X.env.scope scope own)
    (hg : ∀ (s : Shared) (H : Hp) (Ca : Addr) (cl : List (Str × Addr)) (fp : List Addr), PG (X.blk s H scope (compEnvC scope cl Ca X.env) fp) tg (gT C X.K (own.map (·.2)) asg))
    (ht : ∀ (s : Shared) (H : Hp) (Ca : Addr) (cl : List (Str × Addr)) (fp : List Addr), PTs (X.blk s H scope (compEnvC scope cl Ca X.env) fp) ifs (ttM C X.K mc))
    (he : ∀ (s : Shared) (H : Hp) (Ca : Addr) (cl : List (Str × Addr)) (fp : List Addr), PE (X.blk s H scope (compEnvC scope cl Ca X.env) fp) elt (tE C X.K W0 me)) (hs : ∀ x, foldedSetIterable iter X.env x = pure x) :
    PE X (.ListComp elt [⟨tg, iter, ifs, 0⟩] scope pos) (tE C X.K W (lcM mi asg (own.map (·.2)) mc me)) := (pe_lc hc hN hi ok hg ht he hs).imp fun σ H Q h => lift_lc h
end
end Rw
end

section
set_option Elab.async false
set_option linter.all false
set_option maxRecDepth 100000
set_option maxHeartbeats 4000000
/-! RfP: statements. -/
namespace Rw
open PySem PySem.Spec PyProof.Rows L2
/-- what the stores of a display to a display are, worked out -/
def swP (sc : Scope) (ts vs : List Expr) : Option (Option (List Str)) :=
  if (!(ts.length == 2 || ts.length == 3) || vs.length != ts.length) = true then some none
  else if (vs.any fun | .Starred .. => true | _ => false) = true then some none
  else if ((ts.filterMap fun | .Name id pos => if (sc.names.lookup id == some .local && pos.line == (ts.head?.map (·.pos.line)).getD 0) = true then some id else none | _ => none).length != ts.length || (ts.filterMap fun | .Name id pos => if (sc.names.lookup id == some .local && pos.line == (ts.head?.map (·.pos.line)).getD 0) = true then some id else none | _ => none).eraseDups.length != (ts.filterMap fun | .Name id pos => if (sc.names.lookup id == some .local && pos.line == (ts.head?.map (·.pos.line)).getD 0) = true then some id else none | _ => none).length) = true then some none
  else if (vs.all (foldedForSure 8)) = true then some none
  else if (vs.all (constantsAlone 8)) = true then none
  else some (some (ts.filterMap fun | .Name id pos => if (sc.names.lookup id == some .local && pos.line == (ts.head?.map (·.pos.line)).getD 0) = true then some id else none | _ => none))
theorem sw_pure {env : PySem.Env} {ts vs : List Expr} {k k2 : Nat} {p p2 : Pos} {r : Option (List Str)} (hb : env.blockKind = .function) (h : swP env.scope ts vs = some r) : swappedStores [.Tuple ts k p] (.Tuple vs k2 p2) env = pure r := by
  unfold swP at h
  unfold swappedStores
  simp only [hb, bne_self_eq_false, Bool.or_false]
  split at h
  · rename_i h1
    cases h
    refine (if_pos h1).trans ?_
    all_goals rfl
  rename_i h1
  refine (if_neg h1).trans ?_
  split at h
  · rename_i h2
    cases h
    refine (if_pos h2).trans ?_
    all_goals rfl
  rename_i h2
  refine (if_neg h2).trans ?_
  split at h
  · rename_i h3
    cases h
    refine (if_pos h3).trans ?_
    all_goals rfl
  rename_i h3
  refine (if_neg h3).trans ?_
  split at h
  · rename_i h4
    cases h
    refine (if_pos h4).trans ?_
    all_goals rfl
  rename_i h4
  refine (if_neg h4).trans ?_
  split at h
  · cases h
  rename_i h5
  cases h
  refine (if_neg h5).trans ?_
  all_goals rfl
/-- how an end of the evaluator stands for one of the walk -/
def PostO (C : CI) (K : PySem.W.Frag) (al : AL) (H : Hp) (o : O) (D : Ends) (W : WX) : Prop :=
  match o with
  | .nx env h => ∀ al' H' σ, Ext al H al' H' → RepH C K H' al' h → RepE C K H' al' env σ → D.nx σ H'
  | .bk env h => ∀ al' H' σ, Ext al H al' H' → RepH C K H' al' h → RepE C K H' al' env σ → D.bk σ H'
  | .ct env h => ∀ al' H' σ, Ext al H al' H' → RepH C K H' al' h → RepE C K H' al' env σ → D.ct σ H'
  | .rt d f h => ∀ al' H' v, Ext al H al' H' → RepH C K H' al' h → (rF C K).r H al' H' h (d, f) v → D.rt v H'
  | .exc x env h => ∀ al' H' σ dx vs, Ext al H al' H' → RepH C K H' al' h → RepE C K H' al' env σ → XAt C K H' al' x dx vs → W (C.cls x.c) (some dx) σ H'
  | .bad => False
section
variable {C : CI} {K : PySem.W.Frag} {al al1 : AL} {H H1 : Hp} {W : WX}
theorem PostO.start {o : O} {D : Ends} (x : Ext al H al1 H1) (p : PostO C K al H o D W) : PostO C K al1 H1 o D W := by
  cases o with
  | nx env h => exact fun al' H' σ e rh q => p al' H' σ (x.trans e) rh q
  | bk env h => exact fun al' H' σ e rh q => p al' H' σ (x.trans e) rh q
  | ct env h => exact fun al' H' σ e rh q => p al' H' σ (x.trans e) rh q
  | rt d f h => exact fun al' H' v e rh q => p al' H' v (x.trans e) rh ((rF C K).mono (fun _ z => x.toExt0.fresh z) q)
  | exc y env h => exact fun al' H' σ dx vs e rh q => p al' H' σ dx vs (x.trans e) rh q
  | bad => exact p
/-- behind a statement -/
theorem PostO.then {o : O} {f : Env → AH → O} {D : Ends} (p : PostO C K al H (o.then f) D W) :
    PostO C K al H o { D with nx := fun σ H1 => ∃ al1 env h, RepH C K H1 al1 h ∧ RepE C K H1 al1 env σ ∧ PostO C K al1 H1 (f env h) D W } W := by
  cases o with
  | nx env h => exact fun al' H' σ e rh re => ⟨al', env, h, rh, re, PostO.start e p⟩
  | _ => exact p
/-- an expression's answer within a statement -/
theorem PostO.o {α β : Type} {rl : Rl α β} {r : R α} {f : α → AH → O} {env : Env} {σ : L2.St} {D : Ends} (re : RepE C K H al env σ) (p : PostO C K al H (r.o env f) D W) :
    Post C K al H rl r (fun b H1 => ∃ al1 h a, RepH C K H1 al1 h ∧ RepE C K H1 al1 env σ ∧ Ext al H al1 H1 ∧ rl.r H al1 H1 h a b ∧ PostO C K al H (f a h) D W) (fun c d H' => W c d σ H') := by
  cases r with
  | ok a h => exact fun al' H' b e rh q => ⟨al', h, a, rh, re.ext e, e, q, p⟩
  | exc x h => exact fun al' H' dx vs e rh q => p al' H' σ dx vs e rh (re.ext e) q
  | bad => exact p
end
/-- a statement's reading -/
def sT (C : CI) (K : PySem.W.Frag) (W : WX) (m : Env → AH → O) : TS := fun D σ H =>
  ∃ al env h, RepH C K H al h ∧ RepE C K H al env σ ∧ PostO C K al H (m env h) D W
theorem _root_.L2.PSs.imp {X : Cx} {e : List Stmt} {t t' : TS} (h : PSs X e t) (i : ∀ D σ H, t' D σ H → t D σ H) : PSs X e t' := ⟨fun pins s σ H D I q => h.run pins s σ H D I (i D σ H q)⟩
section
variable {C : CI} {X : Cx} {W : WX} {a b c e tg : Expr} {ma mb mc me : Env → AH → R DF} {pos : Pos} {vs : List Nat}
theorem lift_reg {σ : L2.St} {H : Hp} {Q : VK} (h : tE C X.K W (fun env h => (ma env h).bind fun d h1 => regEv h1 d) σ H Q) : tE C X.K W ma σ H Q := by
  obtain ⟨al, env, hh, rh, re, p⟩ := h
  refine ⟨al, env, hh, rh, re, ?_⟩
  dsimp only at p
  cases e : ma env hh with
  | exc x h => rw [e] at p; exact p
  | bad => rw [e] at p; exact p
  | ok d h1 =>
    rw [e] at p
    simp only [R.bind] at p
    have key : ∀ {ob : Ob} {t : Nat}, regEv h1 d = .ok (.ref h1.os.length, false) (h1.new ob t) → d.2 = true → ob.top = t → obOf d.1 = some ob →
        Post C X.K al H (rF C X.K) (.ok d h1) Q (fun c d H' => W c d σ H') := by
      intro ob t er ef et ec
      rw [er] at p
      intro al' H' b ex rh' q
      obtain ⟨q', H0, o, rfl, hq, h0, rfl, r0, k⟩ := q.2 ef
      refine p (al'.add q') _ (.ref q') (ex.add hq) (r0.add h0 (k.repO h0 ec) (by rw [et]; exact Nat.le_max_right _ _) k.nt) ⟨⟨?_, fun z hz => ?_⟩, fun z => nomatch z⟩
      · simp [AL.add, ← r0.len]
      · rw [← r0.len, add_new] at hz
        cases hz
        rfl
    obtain ⟨d1, d2⟩ := d
    cases d2 with
    | false => cases d1 <;> exact False.elim p
    | true =>
      cases d1 with
      | lst xs => exact key rfl rfl rfl rfl
      | dT xs => exact key rfl rfl rfl rfl
      | dI xs => exact key rfl rfl rfl rfl
      | _ => exact False.elim p
/-! ### simple statements -/
theorem sp_nil : PSs X [] (sT C X.K W fun env h => .nx env h) := pss_nil.imp fun D σ H q => by
  obtain ⟨al, env, h, rh, re, p⟩ := q
  exact p al H σ (Ext.refl _ _) rh re
theorem sp_cons {st : Stmt} {rest : List Stmt} {m1 : Env → AH → O} {m2 : Env → AH → O} (h1 : PS X st (sT C X.K W m1)) (h2 : PSs X rest (sT C X.K W m2)) : PSs X (st :: rest) (sT C X.K W fun env h => (m1 env h).then fun env h => m2 env h) :=
  (pss_cons h1 h2).imp fun D σ H q => by
    obtain ⟨al, env, h, rh, re, p⟩ := q
    exact ⟨al, env, h, rh, re, PostO.then p⟩
theorem sp_doc {x : Str} {j : Nat} {p1 p2 : Pos} {rest : List Stmt} {m : Env → AH → O} (h2 : PSs X rest (sT C X.K W m)) : PSs X (.Expr (.Constant (.str x) j p1) p2 :: rest) (sT C X.K W m) :=
  (pss_cons ps_doc h2).imp fun D σ H q => q
theorem sp_pass : PS X (.Pass pos) (sT C X.K W fun env h => .nx env h) := ps_pass.imp fun D σ H q => by
  obtain ⟨al, env, h, rh, re, p⟩ := q
  exact p al H σ (Ext.refl _ _) rh re
theorem sp_brk : PS X (.Break pos) (sT C X.K W fun env h => .bk env h) := ps_break.imp fun D σ H q => by
  obtain ⟨al, env, h, rh, re, p⟩ := q
  exact p al H σ (Ext.refl _ _) rh re
theorem sp_cont : PS X (.Continue pos) (sT C X.K W fun env h => .ct env h) := ps_continue.imp fun D σ H q => by
  obtain ⟨al, env, h, rh, re, p⟩ := q
  exact p al H σ (Ext.refl _ _) rh re
theorem sp_retN : PS X (.Return none pos) (sT C X.K W fun _ h => .rt .non false h) := ps_retN.imp fun D σ H q => by
  obtain ⟨al, env, h, rh, re, p⟩ := q
  exact p al H .non (Ext.refl _ _) rh ⟨rfl, fun z => nomatch z⟩
theorem sp_ret (he : PE X e (tE C X.K W me)) : PS X (.Return (some e) pos) (sT C X.K W fun env h => (me env h).o env fun d h1 => .rt d.1 d.2 h1) := (ps_ret he).imp fun D σ H q => by
  obtain ⟨al, env, h, rh, re, p⟩ := q
  refine ⟨al, env, h, rh, re, (PostO.o (rl := rF C X.K) re p).imp (fun v H1 q => ?_) fun _ _ _ q => q⟩
  obtain ⟨al1, h1, d, rh1, re1, ex, rd, p1⟩ := q
  exact p1 al1 H1 v ex rh1 rd
def noComp : Expr → Bool
  | .ListComp _ _ _ _ | .SetComp _ _ _ _ | .DictComp _ _ _ _ _ => false
  | _ => true
theorem sw_none {e : Expr} {t : Option Expr} {l : Nat} {env : PySem.Env} (h : noComp e = true) : swapsWith e t l env = pure false := by
  cases e <;> first | rfl | cases h
theorem sp_ex (he : PE X e (tE C X.K W me)) (hs : noComp e = true) : PS X (.Expr e pos) (sT C X.K W fun env h => (me env h).o env fun _ h1 => .nx env h1) := (ps_expr he (sw_none hs)).imp fun D σ H q => by
  obtain ⟨al, env, h, rh, re, p⟩ := q
  refine ⟨al, env, h, rh, re, (PostO.o (rl := rF C X.K) re p).imp (fun v H1 q => ?_) fun _ _ _ q => q⟩
  obtain ⟨al1, h1, d, rh1, re1, ex, rd, p1⟩ := q
  exact p1 al1 H1 σ ex rh1 re1
/-- the value stored -/
abbrev asgM (me : Env → AH → R DF) (asg : D → Env → AH → R Env) (env : Env) (h : AH) : O := (me env h).o env fun d h1 => (asg d.1 env h1).o env fun env h2 => .nx env h2
theorem lift_asg {asg : D → Env → AH → R Env} {D : Ends} {σ : L2.St} {H : Hp} (nx : ∀ d env h, NoX (asg d env h)) (q : sT C X.K W (asgM me asg) D σ H) : tE C X.K W me σ H fun x H1 => gT C X.K vs asg x σ H1 D.nx := by
  obtain ⟨al, env, h, rh, re, p⟩ := q
  refine ⟨al, env, h, rh, re, (PostO.o (rl := rF C X.K) re p).imp (fun v H1 q => ?_) fun _ _ _ q => q⟩
  obtain ⟨al1, h1, d, rh1, re1, ex, rd, p1⟩ := q
  refine ⟨al1, env, h1, d.1, rh1, re1, rd.1, ?_⟩
  have p2 := PostO.start ex p1
  cases e : asg d.1 env h1 with
  | ok env2 h2 =>
    rw [e] at p2
    exact fun al' H' σ' ex2 rh2 re2 => p2 al' H' σ' ex2 rh2 re2.1
  | exc x h2 => exact absurd e (nx _ _ _ _ _)
  | bad => rw [e] at p2; exact p2
/-- the target of a plain assignment -/
def asgOk (sc : Scope) (e : Expr) (tg : Expr) : Bool := (noComp e || (match tg with
  | .Name y _ => decide (sc.names.lookup y = some .cell)
  | .Tuple _ _ _ | .Subscript _ _ _ => true
  | _ => false)) && noStar tg && (match tg with
  | .Name _ _ => true
  | .Subscript _ _ _ => true
  | .Tuple ts _ _ => (match e with | .Tuple vs _ _ => decide (swP sc ts vs = some none) | _ => true)
  | _ => false)
theorem swS_none {e tg : Expr} {l : Nat} {env : PySem.Env} (h : (noComp e || (match tg with | .Name y _ => decide (env.scope.names.lookup y = some .cell) | .Tuple _ _ _ | .Subscript _ _ _ => true | _ => false)) = true) : swapsWithSole [tg] e l env = pure false := by
  show swapsWith e (some tg) l env = _
  rcases Bool.or_eq_true_iff.mp h with h | h
  · exact sw_none h
  · cases tg with
    | Name y p =>
      have hk : env.kindOf y = some .cell := of_decide_eq_true h
      cases e with
      | ListComp _ _ _ _ =>
        show (pure (env.blockKind == .function && env.kindOf y == some .local && _ && _) : Sem Bool) = pure false
        rw [hk, show (some NameKind.cell == some NameKind.local) = false from rfl, Bool.and_false, Bool.false_and, Bool.false_and]
      | SetComp _ _ _ _ =>
        show (pure (env.blockKind == .function && env.kindOf y == some .local && _ && _) : Sem Bool) = pure false
        rw [hk, show (some NameKind.cell == some NameKind.local) = false from rfl, Bool.and_false, Bool.false_and, Bool.false_and]
      | DictComp _ _ _ _ _ =>
        show (pure (env.blockKind == .function && env.kindOf y == some .local && _ && _) : Sem Bool) = pure false
        rw [hk, show (some NameKind.cell == some NameKind.local) = false from rfl, Bool.and_false, Bool.false_and, Bool.false_and]
      | _ => rfl
    | Tuple _ _ _ => cases e <;> rfl
    | Subscript _ _ _ => cases e <;> rfl
    | _ => cases h
theorem ss_none {e tg : Expr} {env : PySem.Env} (hb : env.blockKind = .function) (h : asgOk env.scope e tg = true) : swappedStores [tg] e env = pure none := by
  unfold asgOk at h
  simp only [Bool.and_eq_true] at h
  cases tg with
  | Name _ _ => rfl
  | Subscript _ _ _ => rfl
  | Tuple es k p =>
    cases e with
    | Tuple vs k2 p2 => exact sw_pure hb (of_decide_eq_true h.2)
    | _ => rfl
  | _ => exact absurd h.2 (by simp)
theorem sp_asg {asg : D → Env → AH → R Env} (nx : ∀ d env h, NoX (asg d env h)) (he : PE X e (tE C X.K W me)) (hg : PG X tg (gT C X.K vs asg)) (hk : X.env.scope.kind = .function) (h : asgOk X.env.scope e tg = true) : PS X (.Assign [tg] e pos) (sT C X.K W (asgM me asg)) := by
  have h' := h
  unfold asgOk at h'
  rw [Bool.and_eq_true, Bool.and_eq_true] at h'
  exact (ps_asg he hg (swS_none h'.1.1) (ss_none (by unfold PySem.Env.blockKind; rw [hk]; rfl) h) (asg1 h'.1.2)).imp fun D σ H q => lift_asg nx q
/-! ### tests, loops -/
theorem lift_if {D : Ends} {σ : L2.St} {H : Hp} {m1 m2 : Env → AH → O} (q : sT C X.K W (fun env h => (mc env h).o env fun x h1 => (match tru h1 x.1 with | some true => m1 env h1 | some false => m2 env h1 | none => .bad)) D σ H) :
    tT C X.K W (truR mc) σ H fun b H1 => if b = true then sT C X.K W m1 D σ H1 else sT C X.K W m2 D σ H1 := by
  obtain ⟨al, env, h, rh, re, p⟩ := q
  refine ⟨al, env, h, rh, re, ?_⟩
  unfold truR
  dsimp only at p
  cases e : mc env h with
  | ok x h1 =>
    rw [e] at p
    simp only [R.o] at p
    simp only [R.bind]
    split at p
    · rename_i e1
      rw [e1]
      intro al' H' b ex rh' q
      have q' : true = b := q
      subst q'
      exact ⟨al', env, h1, rh', re.ext ex, PostO.start ex p⟩
    · rename_i e1
      rw [e1]
      intro al' H' b ex rh' q
      have q' : false = b := q
      subst q'
      exact ⟨al', env, h1, rh', re.ext ex, PostO.start ex p⟩
    · exact p.elim
  | exc x h1 =>
    rw [e] at p
    exact fun al' H' dx vs ex rh' q => p al' H' σ dx vs ex rh' (re.ext ex) q
  | bad => rw [e] at p; exact p
theorem sp_if {m1 m2 : Env → AH → O} {s1 s2 : List Stmt} (hc : PT X c (tT C X.K W (truR mc))) (h1 : PSs X s1 (sT C X.K W m1)) (h2 : PSs X s2 (sT C X.K W m2)) :
    PS X (.If c s1 s2 pos) (sT C X.K W fun env h => (mc env h).o env fun x h1 => (match tru h1 x.1 with | some true => m1 env h1 | some false => m2 env h1 | none => .bad)) :=
  (ps_if hc h1 h2).imp fun D σ H q => lift_if q
theorem sp_whl {m : Env → AH → O} {body : List Stmt} {n : Nat} (hp : PassesOwn (model X.prog X.w) X.A X.env X.xe) (hc : PT X c (tT C X.K W (truR mc))) (hb : PSs X body (sT C X.K W m)) : PS X (.While c body [] pos) (sT C X.K W (whlEv mc m n)) :=
  (ps_while hp hc hb).imp fun D σ H q => by
    refine ⟨fun k σ H => sT C X.K W (whlEv mc m k) D σ H, ⟨n, q⟩, fun k σ H q => ?_⟩
    cases k with
    | zero => obtain ⟨al, env, h, rh, re, p⟩ := q; exact p.elim
    | succ k =>
      have q2 := lift_if (m1 := fun env h1 => (m env h1).loop (whlEv mc m k)) (m2 := fun env h1 => .nx env h1) q
      refine q2.imp fun b H1 q => ?_
      cases b with
      | true =>
        rw [if_pos rfl] at q ⊢
        refine ⟨fun σ' H' => sT C X.K W (whlEv mc m k) D σ' H', fun σ' H' z => ⟨k, Nat.lt_succ_self k, z⟩, ?_⟩
        obtain ⟨al, env, h, rh, re, p⟩ := q
        refine ⟨al, env, h, rh, re, ?_⟩
        dsimp only at p
        cases e : m env h with
        | nx env2 h2 => rw [e] at p; exact fun al' H' σ' ex rh' re' => ⟨al', env2, h2, rh', re', PostO.start ex p⟩
        | ct env2 h2 => rw [e] at p; exact fun al' H' σ' ex rh' re' => ⟨al', env2, h2, rh', re', PostO.start ex p⟩
        | bk env2 h2 => rw [e] at p; exact p
        | rt d f h2 => rw [e] at p; exact p
        | exc x env2 h2 => rw [e] at p; exact p
        | bad => rw [e] at p; exact p
      | false =>
        rw [if_neg Bool.false_ne_true] at q ⊢
        obtain ⟨al, env, h, rh, re, p⟩ := q
        exact p al H1 σ (Ext.refl _ _) rh re
theorem sp_for {iter : Expr} {body : List Stmt} {mi : Env → AH → R (List D)} {asg : D → Env → AH → R Env} {m : Env → AH → O} (hp : PassesOwn (model X.prog X.w) X.A X.env X.xe) (hc : X.calm = true) (nx : ∀ d env h, NoX (asg d env h)) (hi : PI X tg iter (iT C X.K W mi))
    (hg : PG X tg (gT C X.K vs asg)) (hb : PSs X body (sT C X.K W m)) (hs : ∀ x, foldedSetIterable iter X.env x = pure x) :
    PS X (.For tg iter body [] pos) (sT C X.K W fun env h => (mi env h).o env fun xs h1 => forEv asg m xs env h1) := by
  refine (ps_for hp hc hi hg hb hs).imp fun D σ H q => ?_
  obtain ⟨al, env, h, rh, re, p⟩ := q
  refine ⟨al, env, h, rh, re, (PostO.o (rl := rI C X.K) re p).imp (fun J H1 q => ?_) fun _ _ _ q => q⟩
  obtain ⟨al1, h1, xs, rh1, re1, ex, hJ, p1⟩ := q
  have hJ : ItR C X.K H1 al1 xs J := hJ
  have p1 := PostO.start ex p1
  refine ⟨fun i k σ H => k = xs.length - i ∧ i ≤ xs.length ∧ ∃ al env h, Ext al1 H1 al H ∧ RepH C X.K H al h ∧ RepE C X.K H al env σ ∧ PostO C X.K al H (forEv asg m (xs.drop i) env h) D W, ⟨xs.length, by simp, Nat.zero_le _, al1, env, h1, Ext.refl _ _, rh1, re1, p1⟩, ?_⟩
  rintro i k σ H ⟨rfl, hi', al, env, h, ex, rh, re, p⟩
  obtain ⟨hgo, hstop⟩ := hJ al H h ex.toExt0 rh
  by_cases hlt : i < xs.length
  · refine .inr ?_
    obtain ⟨go, hy⟩ := hgo i xs[i] (List.getElem?_eq_getElem hlt)
    refine ⟨go, fun σ' H' => ∃ k', k' = xs.length - (i + 1) ∧ i + 1 ≤ xs.length ∧ ∃ al env h, Ext al1 H1 al H' ∧ RepH C X.K H' al h ∧ RepE C X.K H' al env σ' ∧ PostO C X.K al H' (forEv asg m (xs.drop (i + 1)) env h) D W, fun σ' H' ⟨k', e, z⟩ => ⟨k', by omega, e, z⟩, fun v H' yl => ?_⟩
    obtain ⟨yn, rx⟩ := hy v H' yl
    obtain ⟨exy, rh'⟩ := yld_ext rh yn
    rw [List.drop_eq_getElem_cons hlt] at p
    have p := PostO.start exy p
    refine ⟨al, env, h, xs[i], rh', re.ext exy, rx, ?_⟩
    have p : PostO C X.K al H' ((asg xs[i] env h).o env fun env h => (m env h).loop (forEv asg m (xs.drop (i + 1)))) D W := p
    cases e : asg xs[i] env h with
    | exc x h2 => exact absurd e (nx _ _ _ _ _)
    | bad => rw [e] at p; exact p
    | ok env2 h2 =>
      rw [e] at p
      intro al2 H2 σ2 ex2 rh2 re2
      have p := PostO.start ex2 p
      refine ⟨al2, env2, h2, rh2, re2.1, ?_⟩
      have exx : Ext al1 H1 al2 H2 := (ex.trans exy).trans ex2
      simp only [R.o] at p
      cases e2 : m env2 h2 with
      | nx env3 h3 => rw [e2] at p; exact fun al3 H3 σ3 ex3 rh3 re3 => ⟨_, rfl, hlt, al3, env3, h3, exx.trans ex3, rh3, re3, PostO.start ex3 p⟩
      | ct env3 h3 => rw [e2] at p; exact fun al3 H3 σ3 ex3 rh3 re3 => ⟨_, rfl, hlt, al3, env3, h3, exx.trans ex3, rh3, re3, PostO.start ex3 p⟩
      | bk env3 h3 => rw [e2] at p; exact p
      | rt d f h3 => rw [e2] at p; exact p
      | exc x env3 h3 => rw [e2] at p; exact p
      | bad => rw [e2] at p; exact p
  · refine .inl ?_
    have e : i = xs.length := by omega
    subst e
    rw [List.drop_length] at p
    exact ⟨hstop, p al H σ (Ext.refl _ _) rh re⟩
/-! ### a registered thing becomes immediate -/
def AL.fz (al : AL) (n : Nat) : AL := ⟨al.r.set n none, al.g⟩
section
variable {K : PySem.W.Frag} {al : AL} {H : Hp} {h : AH} {n : Nat} {q : Addr}
theorem fz_get {m : Nat} {p : Addr} (e : (al.fz n).r[m]? = some (some p)) : m ≠ n ∧ al.r[m]? = some (some p) := by
  unfold AL.fz at e
  dsimp only at e
  by_cases hm : m = n
  · subst hm
    by_cases hl : m < al.r.length
    · rw [List.getElem?_set_self hl] at e; cases e
    · rw [List.set_eq_of_length_le (Nat.le_of_not_lt hl)] at e
      exact absurd (lt_of_at e) hl
  · rw [List.getElem?_set_ne (Ne.symm hm)] at e
    exact ⟨hm, e⟩
theorem Ext.fz : Ext al H (al.fz n) H where
  len := by simp [AL.fz]
  old := fun m p e => .inl ⟨lt_of_at (fz_get e).2, (fz_get e).2⟩
  kp := fun _ _ e _ => e
  gd := fun _ z => .inl z
  trk := fun _ _ e z => by rw [e] at z; cases z
  ge := rfl
  gk := fun _ _ _ e _ => e
theorem RepH.fz (r : RepH C K H al h) : RepH C K H (al.fz n) ⟨h.os.set n .dead, h.fl⟩ where
  len := by simp [AL.fz, r.len]
  inj := fun i j p a b => r.inj i j p (fz_get a).2 (fz_get b).2
  dis := fun p hp ⟨m, z⟩ => r.dis p hp ⟨m, (fz_get z).2⟩
  trk := fun p a z => by
    rcases a with ⟨m, a⟩ | a
    · exact r.trk p (.inl ⟨m, (fz_get a).2⟩) z
    · exact r.trk p (.inr a) z
  nt := fun p a vs z => by
    rcases a with ⟨m, a⟩ | a
    · exact r.nt p (.inl ⟨m, (fz_get a).2⟩) vs z
    · exact r.nt p (.inr a) vs z
  ob := fun m o e => by
    by_cases hm : m = n
    · subst hm
      left
      have hl : m < h.os.length := by
        have := lt_of_at e
        simpa using this
      have e' : (h.os.set m .dead)[m]? = some o := e
      rw [List.getElem?_set_self hl] at e'
      exact (Option.some.inj e').symm
    · have e' : (h.os.set n .dead)[m]? = some o := e
      rw [List.getElem?_set_ne (Ne.symm hm)] at e'
      rcases r.ob m o e' with h1 | ⟨b, h1, h2⟩
      · exact .inl h1
      · refine .inr ⟨b, ?_, h2.ext Ext.fz.toExt0 rfl⟩
        unfold AL.fz
        rw [List.getElem?_set_ne (Ne.symm hm)]
        exact h1
  top := fun m o e => by
    by_cases hm : m = n
    · subst hm
      have hl : m < h.os.length := by
        have := lt_of_at e
        simpa using this
      have e' : (h.os.set m .dead)[m]? = some o := e
      rw [List.getElem?_set_self hl] at e'
      cases e'
      exact Nat.zero_le _
    · have e' : (h.os.set n .dead)[m]? = some o := e
      rw [List.getElem?_set_ne (Ne.symm hm)] at e'
      exact r.top m o e'
theorem fz_notAt (r : RepH C K H al h) (a : al.r[n]? = some (some q)) : ¬ At (al.fz n) q := by
  rintro (⟨m, z⟩ | z)
  · obtain ⟨h1, h2⟩ := fz_get z
    exact h1 (r.inj m n q h2 a)
  · exact r.dis q z ⟨n, a⟩
end
abbrev fzM (i : Nat) (env : Env) (h : AH) : O := match env[i]? with
  | some (some (.ref n)) => (match h.os[n]? with
    | some (.lst xs) => .nx (env.set i (some (.lst xs))) ⟨h.os.set n .dead, h.fl⟩
    | some (.dT xs) => .nx (env.set i (some (.dT xs))) ⟨h.os.set n .dead, h.fl⟩
    | some (.dI xs) => .nx (env.set i (some (.dI xs))) ⟨h.os.set n .dead, h.fl⟩
    | _ => .bad)
  | _ => .bad
theorem RepE.fzAt {K : PySem.W.Frag} {al : AL} {H : Hp} {env : Env} {σ : L2.St} {i : Nat} {d : D} {v : V} (r : RepE C K H al env σ) (hv : σ[i]? = some (some v)) (rd : Rep C K H al d v) : RepE C K H al (env.set i (some d)) σ := by
  have := RepE.set r i rd
  have e : σ.set i (some v) = σ := by
    obtain ⟨hl, e1⟩ := List.getElem?_eq_some_iff.mp hv
    rw [← e1]
    exact List.set_getElem_self hl
  rw [e] at this
  exact this
theorem sp_fz {i : Nat} {rest : List Stmt} {m : Env → AH → O} (h2 : PSs X rest (sT C X.K W m)) : PSs X rest (sT C X.K W fun env h => (fzM i env h).then fun env h => m env h) := by
  refine h2.imp fun D σ H q => ?_
  obtain ⟨al, env, h, rh, re, p⟩ := q
  dsimp only [fzM] at p
  split at p
  · rename_i n e
    obtain ⟨v, hv, rv⟩ := re.at_ i _ e rfl
    split at p
    · rename_i xs eo
      obtain ⟨q, ws, rfl, hp, rl, ha⟩ := lst_at rh rv eo
      exact ⟨al.fz n, _, _, rh.fz, (re.ext Ext.fz.toExt0).fzAt (d := .lst xs) hv ⟨q, ws, rfl, ⟨hp, fz_notAt rh ha⟩, RepL.ext Ext.fz.toExt0 _ rl⟩, PostO.start Ext.fz p⟩
    · rename_i xs eo
      obtain ⟨q, ws, rfl, hp, rl, ha⟩ := dT_at rh rv eo
      exact ⟨al.fz n, _, _, rh.fz, (re.ext Ext.fz.toExt0).fzAt (d := .dT xs) hv ⟨q, ws, rfl, ⟨hp, fz_notAt rh ha⟩, RepT.ext Ext.fz.toExt0 _ rl⟩, PostO.start Ext.fz p⟩
    · rename_i xs eo
      obtain ⟨q, ws, rfl, hp, rl, ha⟩ := dI_at rh rv eo
      exact ⟨al.fz n, _, _, rh.fz, (re.ext Ext.fz.toExt0).fzAt (d := .dI xs) hv ⟨q, ws, rfl, ⟨hp, fz_notAt rh ha⟩, RepI.ext Ext.fz.toExt0 _ rl⟩, PostO.start Ext.fz p⟩
    · exact p.elim
  · exact p.elim
/-- name = [..] -/
theorem lift_asgN {i : Nat} {te : TE} {D : Ends} {σ : L2.St} {H : Hp} (nd : i < σ.length) (lift : ∀ Q, tE C X.K W me σ H Q → te σ H Q) (q : sT C X.K W (asgM me (nmM i)) D σ H) : tAsg te (gName i) D σ H := by
  refine lift _ ((lift_asg (vs := [i]) (fun d env h x h' e => ?_) q).imp fun v H1 q => ?_)
  · unfold nmM at e
    split at e <;> cases e
  · obtain ⟨al, env, h, d, rh, re, rd, p⟩ := q
    unfold nmM at p
    split at p
    · rename_i hd
      exact p al H1 (σ.set i (some v)) (Ext.refl _ _) rh ⟨RepE.set re i rd, wipe_set (List.mem_singleton.mpr rfl)⟩
    · exact p.elim
/-- where the stores of a comprehension's value are swapped -/
def swOk (sc : Scope) (y : Str) (py pos : Pos) (scope : Scope) : Bool := (py.line == pos.line) && !(scope.names.any fun (n, k) => n == y && (k == .local || k == .cell))
theorem sp_setLc {i : Nat} {y : Str} {py : Pos} {elt iter : Expr} {ifs : List Expr} {scope : Scope} {own : List (Str × Nat)} {p2 : Pos} {mi : Env → AH → R (List D)} {asg : D → Env → AH → R Env} {mc' : Option (Env → AH → R DF)} {m : Env → AH → R DF}
    (hk : X.env.scope.kind = .function) (hc : X.calm = true) (hN : X.N.Nodup) (hy : X.N[i]? = some y) (hyl : X.env.scope.names.lookup y = some .local) (hsw : swOk X.env.scope y py p2 scope = true) (hi : PI X tg iter (iT C X.K W mi)) (ok : BlkOk X.N X.env.scope scope own)
    (hg : ∀ (s : Shared) (H : Hp) (Ca : Addr) (cl : List (Str × Addr)) (fp : List Addr), PG (X.blk s H scope (compEnvC scope cl Ca X.env) fp) tg (gT C X.K (own.map (·.2)) asg))
    (ht : ∀ (s : Shared) (H : Hp) (Ca : Addr) (cl : List (Str × Addr)) (fp : List Addr), PTs (X.blk s H scope (compEnvC scope cl Ca X.env) fp) ifs (ttM C X.K mc'))
    (he : ∀ (s : Shared) (H : Hp) (Ca : Addr) (cl : List (Str × Addr)) (fp : List Addr), PE (X.blk s H scope (compEnvC scope cl Ca X.env) fp) elt (tE C X.K W0 me)) (hs : ∀ x, foldedSetIterable iter X.env x = pure x)
    (lift : ∀ σ H Q, tE C X.K W m σ H Q → tE C X.K W (lcM mi asg (own.map (·.2)) mc' me) σ H Q) :
    PS X (.Assign [.Name y py] (.ListComp elt [⟨tg, iter, ifs, 0⟩] scope p2) pos) (sT C X.K W (asgM m (nmM i))) := by
  have hsw' := hsw
  unfold swOk at hsw'
  rw [Bool.and_eq_true] at hsw'
  refine ⟨fun pins s σ H D I q => (ps_setLc hc hN hy hyl (sw_true hk hyl hsw'.1 (by simpa using hsw'.2)) hi ok hg ht he hs).run pins s σ H D I ?_⟩
  refine lift_asgN (me := m) (by rw [I.len]; exact lt_of_at hy) (fun Q z => lift_lc (lift σ H Q z)) q
end
end Rw
end

section
set_option Elab.async false
set_option linter.all false
set_option maxRecDepth 100000
set_option maxHeartbeats 4000000
/-! RfL: a def's end. -/
namespace Rw
open PySem PySem.Spec PyProof.Rows L2
/-- fewer registered objects -/
structure Cut (n : Nat) (al : AL) (H : Hp) (al' : AL) (H' : Hp) : Prop where
  len : n ≤ al'.r.length
  get : ∀ m p, m < n → al'.r[m]? = some (some p) → al.r[m]? = some (some p)
  kp : ∀ b o, H b = some o → ¬ At al b → H' b = some o
  at_ : ∀ b, ¬ At al b → ¬ At al' b
section
variable {C : CI} {K : PySem.W.Frag} {al al' : AL} {H H' : Hp} {n : Nat}
mutual
theorem Rep.cut (x : Cut n al H al' H') : ∀ (d : D) {v : V}, d.top ≤ n → Rep C K H al d v → Rep C K H' al' d v
  | .non, _, _, h => h
  | .bl _, _, _, h => h
  | .int _, _, _, h => h
  | .str _, _, _, h => h
  | .tup xs, v, ht, h => by
    obtain ⟨p, vs, e, ⟨t, nn⟩, r⟩ := h
    exact ⟨p, vs, e, ⟨x.kp _ _ t nn, x.at_ _ nn⟩, RepL.cut x xs ht r⟩
  | .lst xs, v, ht, h => by
    obtain ⟨p, vs, e, ⟨t, nn⟩, r⟩ := h
    exact ⟨p, vs, e, ⟨x.kp _ _ t nn, x.at_ _ nn⟩, RepL.cut x xs ht r⟩
  | .dT xs, v, ht, h => by
    obtain ⟨p, vs, e, ⟨t, nn⟩, r⟩ := h
    exact ⟨p, vs, e, ⟨x.kp _ _ t nn, x.at_ _ nn⟩, RepT.cut x xs ht r⟩
  | .dI xs, v, ht, h => by
    obtain ⟨p, vs, e, ⟨t, nn⟩, r⟩ := h
    exact ⟨p, vs, e, ⟨x.kp _ _ t nn, x.at_ _ nn⟩, RepI.cut x xs ht r⟩
  | .ref m, v, ht, h => by
    obtain ⟨h1, h2⟩ := h
    have hm : m < n := ht
    exact ⟨Nat.lt_of_lt_of_le hm x.len, fun p e => h2 p (x.get m p hm e)⟩
  | .scr ns, v, _, h => by
    obtain ⟨p, e, t⟩ := h
    refine ⟨p, e, ?_⟩
    rcases t with ⟨⟨o, e⟩, nn⟩ | t
    · exact .inl ⟨⟨o, x.kp _ _ e nn⟩, x.at_ _ nn⟩
    · exact .inr t
  | .ktp xs, v, ht, h => by
    obtain ⟨p, vs, e, t, r⟩ := h
    exact ⟨p, vs, e, t, RepL.cut x xs ht r⟩
  | .exc _ _, _, _, h => h
theorem RepL.cut (x : Cut n al H al' H') : ∀ (ds : List D) {vs : List V}, topL ds ≤ n → RepL C K H al ds vs → RepL C K H' al' ds vs
  | [], _, _, h => h
  | d :: ds, _, ht, h => by
    obtain ⟨v, r, e, h1, h2⟩ := h
    exact ⟨v, r, e, Rep.cut x d (Nat.le_trans (Nat.le_max_left _ _) ht) h1, RepL.cut x ds (Nat.le_trans (Nat.le_max_right _ _) ht) h2⟩
theorem RepT.cut (x : Cut n al H al' H') : ∀ (ds : List (List Int × D)) {vs : List (List Key × V)}, topT ds ≤ n → RepT C K H al ds vs → RepT C K H' al' ds vs
  | [], _, _, h => h
  | (k, d) :: ds, _, ht, h => by
    obtain ⟨v, r, e, h1, h2⟩ := h
    exact ⟨v, r, e, Rep.cut x d (Nat.le_trans (Nat.le_max_left _ _) ht) h1, RepT.cut x ds (Nat.le_trans (Nat.le_max_right _ _) ht) h2⟩
theorem RepI.cut (x : Cut n al H al' H') : ∀ (ds : List (Int × D)) {vs : List (Key × V)}, topI ds ≤ n → RepI C K H al ds vs → RepI C K H' al' ds vs
  | [], _, _, h => h
  | (k, d) :: ds, _, ht, h => by
    obtain ⟨v, r, e, h1, h2⟩ := h
    exact ⟨v, r, e, Rep.cut x d (Nat.le_trans (Nat.le_max_left _ _) ht) h1, RepI.cut x ds (Nat.le_trans (Nat.le_max_right _ _) ht) h2⟩
end
def AL.take (al : AL) (n : Nat) : AL := ⟨al.r.take n, al.g⟩
theorem take_get {m : Nat} {p : Addr} (e : (al.take n).r[m]? = some (some p)) : m < n ∧ al.r[m]? = some (some p) := by
  have e' : (al.r.take n)[m]? = some (some p) := e
  by_cases h : m < n
  · rw [List.getElem?_take_of_lt h] at e'
    exact ⟨h, e'⟩
  · rw [List.getElem?_take_eq_none (Nat.le_of_not_lt h)] at e'
    cases e'
theorem take_at {b : Addr} (h : ¬ At al b) : ¬ At (al.take n) b := by
  rintro (⟨m, z⟩ | z)
  · exact h (.inl ⟨m, (take_get z).2⟩)
  · exact h (.inr z)
theorem Cut.take (hn : n ≤ al.r.length) : Cut n al H (al.take n) H where
  len := by simp [AL.take, hn]
  get := fun m p _ e => (take_get e).2
  kp := fun _ _ e _ => e
  at_ := fun _ h => take_at h
variable {h : AH}
theorem RepO.cut {p : Addr} {o : Ob} (x : Cut n al H al' H') (ht : o.top ≤ n) (e : H' p = H p) (r : RepO C K H al p o) : RepO C K H' al' p o := by
  cases o with
  | lst xs => obtain ⟨vs, h1, h2⟩ := r; exact ⟨vs, e.trans h1, RepL.cut x xs ht h2⟩
  | dT xs => obtain ⟨vs, h1, h2⟩ := r; exact ⟨vs, e.trans h1, RepT.cut x xs ht h2⟩
  | dI xs => obtain ⟨vs, h1, h2⟩ := r; exact ⟨vs, e.trans h1, RepI.cut x xs ht h2⟩
  | ins _ _ => exact r.elim
  | dead => trivial
/-- the registered objects from n on go; their heap may lose one of them -/
theorem RepH.cut {H' : Hp} (r : RepH C K H al h) (hn : n ≤ al.r.length) (hf : h.fl ≤ n) (x : Cut n al H (al.take n) H') (same : ∀ p, At (al.take n) p → H' p = H p) : RepH C K H' (al.take n) ⟨h.os.take n, h.fl⟩ where
  len := by simp [AL.take, r.len]
  inj := fun i j p a b => r.inj i j p (take_get a).2 (take_get b).2
  dis := fun p hp ⟨m, z⟩ => r.dis p hp ⟨m, (take_get z).2⟩
  trk := fun p a z => by
    rw [same p a] at z
    rcases a with ⟨m, a⟩ | a
    · exact r.trk p (.inl ⟨m, (take_get a).2⟩) z
    · exact r.trk p (.inr a) z
  nt := fun p a vs z => by
    rw [same p a] at z
    rcases a with ⟨m, a⟩ | a
    · exact r.nt p (.inl ⟨m, (take_get a).2⟩) vs z
    · exact r.nt p (.inr a) vs z
  ob := fun m o e => by
    have e' : (h.os.take n)[m]? = some o := e
    have hm : m < n := by
      by_cases hm : m < n
      · exact hm
      · rw [List.getElem?_take_eq_none (Nat.le_of_not_lt hm)] at e'; cases e'
    rw [List.getElem?_take_of_lt hm] at e'
    rcases r.ob m o e' with h1 | ⟨b, h1, h2⟩
    · exact .inl h1
    · have hb : (al.take n).r[m]? = some (some b) := by
        show (al.r.take n)[m]? = _
        rw [List.getElem?_take_of_lt hm]; exact h1
      exact .inr ⟨b, hb, h2.cut x (Nat.le_trans (r.top m o e') hf) (same b (.inl ⟨m, hb⟩))⟩
  top := fun m o e => by
    have e' : (h.os.take n)[m]? = some o := e
    have hm : m < n := by
      by_cases hm : m < n
      · exact hm
      · rw [List.getElem?_take_eq_none (Nat.le_of_not_lt hm)] at e'; cases e'
    rw [List.getElem?_take_of_lt hm] at e'
    exact r.top m o e'
theorem top_mapL {f : D → D} {xs : List D} (h : topL (xs.map f) ≤ n) : ∀ x ∈ xs, (f x).top ≤ n := fun x hx => topL_le.mp h (f x) (List.mem_map.mpr ⟨x, hx, rfl⟩)
theorem repL_map {f : D → D} : ∀ {xs : List D} {vs : List V}, (∀ x ∈ xs, ∀ v, Rep C K H al x v → Rep C K H' al' (f x) v) → RepL C K H al xs vs → RepL C K H' al' (xs.map f) vs
  | [], _, _, r => r
  | x :: xs, _, h, r => by
    obtain ⟨v, ws, rfl, r1, r2⟩ := r
    exact ⟨v, ws, rfl, h x (List.mem_cons_self ..) v r1, repL_map (fun y hy => h y (List.mem_cons_of_mem _ hy)) r2⟩
theorem repT_map' {f : D → D} : ∀ {xs : List (List Int × D)} {vs : List (List Key × V)}, (∀ x ∈ xs, ∀ v, Rep C K H al x.2 v → Rep C K H' al' (f x.2) v) → RepT C K H al xs vs → RepT C K H' al' (xs.map fun p => (p.1, f p.2)) vs
  | [], _, _, r => r
  | (k, x) :: xs, _, h, r => by
    obtain ⟨v, ws, rfl, r1, r2⟩ := r
    exact ⟨v, ws, rfl, h (k, x) (List.mem_cons_self ..) v r1, repT_map' (fun y hy => h y (List.mem_cons_of_mem _ hy)) r2⟩
theorem repI_map' {f : D → D} : ∀ {xs : List (Int × D)} {vs : List (Key × V)}, (∀ x ∈ xs, ∀ v, Rep C K H al x.2 v → Rep C K H' al' (f x.2) v) → RepI C K H al xs vs → RepI C K H' al' (xs.map fun p => (p.1, f p.2)) vs
  | [], _, _, r => r
  | (k, x) :: xs, _, h, r => by
    obtain ⟨v, ws, rfl, r1, r2⟩ := r
    exact ⟨v, ws, rfl, h (k, x) (List.mem_cons_self ..) v r1, repI_map' (fun y hy => h y (List.mem_cons_of_mem _ hy)) r2⟩
theorem gone {m : Nat} {p : Addr} (r : RepH C K H al h) (hm : n ≤ m) (a : al.r[m]? = some (some p)) : ¬ At (al.take n) p := by
  rintro (⟨i, z⟩ | z)
  · obtain ⟨h1, h2⟩ := take_get z
    have := r.inj i m p h2 a
    omega
  · exact r.dis p z ⟨m, a⟩
/-- a value made immediate -/
theorem Rep.frz (r : RepH C K H al h) (hn : n ≤ al.r.length) : ∀ (k : Nat) (d : D) {v : V}, Rep C K H al d v → (frz h.os n k d).top ≤ n → Rep C K H (al.take n) (frz h.os n k d) v
  | 0, d, v, rd, ht => Rep.cut (Cut.take hn) d ht rd
  | k + 1, d, v, rd, ht => by
    cases d with
    | tup xs =>
      obtain ⟨p, vs, e, ⟨t, nn⟩, rl⟩ := rd
      exact ⟨p, vs, e, ⟨t, take_at nn⟩, repL_map (fun x hx w rw' => Rep.frz r hn k x rw' (top_mapL ht x hx)) rl⟩
    | lst xs =>
      obtain ⟨p, vs, e, ⟨t, nn⟩, rl⟩ := rd
      exact ⟨p, vs, e, ⟨t, take_at nn⟩, repL_map (fun x hx w rw' => Rep.frz r hn k x rw' (top_mapL ht x hx)) rl⟩
    | ref m =>
      unfold Rw.frz at ht ⊢
      by_cases hm : n ≤ m
      · simp only [if_pos hm] at ht ⊢
        split at ht
        · rename_i xs eo
          obtain ⟨p, ws, rfl, hp, rl, ha⟩ := lst_at r rd eo
          exact ⟨p, ws, rfl, ⟨hp, gone r hm ha⟩, repL_map (fun x hx w rw' => Rep.frz r hn k x rw' (top_mapL ht x hx)) rl⟩
        · rename_i xs eo
          obtain ⟨p, ws, rfl, hp, rl, ha⟩ := dT_at r rd eo
          exact ⟨p, ws, rfl, ⟨hp, gone r hm ha⟩, repT_map' (fun x hx w rw' => Rep.frz r hn k x.2 rw' (topT_le.mp ht _ (List.mem_map.mpr ⟨x, hx, rfl⟩))) rl⟩
        · rename_i xs eo
          obtain ⟨p, ws, rfl, hp, rl, ha⟩ := dI_at r rd eo
          exact ⟨p, ws, rfl, ⟨hp, gone r hm ha⟩, repI_map' (fun x hx w rw' => Rep.frz r hn k x.2 rw' (topI_le.mp ht _ (List.mem_map.mpr ⟨x, hx, rfl⟩))) rl⟩
        · have : m + 1 ≤ n := ht
          omega
      · simp only [if_neg hm] at ht ⊢
        exact Rep.cut (Cut.take hn) _ ht rd
    | _ => exact Rep.cut (Cut.take hn) _ ht rd
/-- without the object that went, too -/
theorem Cut.hid {m : Nat} {p : Addr} (r : RepH C K H al h) (hn : n ≤ al.r.length) (hm : n ≤ m) (a : al.r[m]? = some (some p)) : Cut n al H (al.take n) (Rw.hid H p) where
  len := by simp [AL.take, hn]
  get := fun i q _ e => (take_get e).2
  kp := fun b o e nn => by
    have hb : b ≠ p := fun z => by subst z; exact nn (.inl ⟨m, a⟩)
    rw [hid_ne hb]; exact e
  at_ := fun _ h => take_at h
theorem Ext.take {al0 : AL} {H0 : Hp} (x : Ext al0 H0 al H) (hn : al0.r.length = n) : Ext al0 H0 (al.take n) H where
  len := by
    have := x.len
    simp [AL.take]
    omega
  old := fun m p e => by
    obtain ⟨h1, h2⟩ := take_get e
    exact x.old m p h2
  kp := x.kp
  gd := x.gd
  trk := x.trk
  ge := x.ge
  gk := x.gk
theorem Kid.cut {H' : Hp} {d : D} {o : HO} (x : Cut n al H al' H') (ht : d.top ≤ n) (k : Kid C K H al d o) : Kid C K H' al' d o := by
  cases d with
  | lst xs =>
    cases o with
    | lst vs => exact RepL.cut x xs ht k
    | _ => exact k.elim
  | dT xs =>
    cases o with
    | dT vs => exact RepT.cut x xs ht k
    | _ => exact k.elim
  | dI xs =>
    cases o with
    | dK vs => exact RepI.cut x xs ht k
    | _ => exact k.elim
  | _ => exact k.elim
theorem Kid.frz {d : D} {o : HO} (r : RepH C K H al h) (hn : n ≤ al.r.length) (k : Nat) (ht : (Rw.frz h.os n k d).top ≤ n) (kd : Kid C K H al d o) : Kid C K H (al.take n) (Rw.frz h.os n k d) o := by
  cases k with
  | zero => exact Kid.cut (Cut.take hn) ht kd
  | succ k =>
    cases d with
    | lst xs =>
      cases o with
      | lst vs => exact repL_map (fun x hx w rw' => Rep.frz r hn k x rw' (top_mapL ht x hx)) kd
      | _ => exact kd.elim
    | dT xs => exact Kid.cut (Cut.take hn) ht kd
    | dI xs => exact Kid.cut (Cut.take hn) ht kd
    | _ => exact kd.elim
theorem frz_id {os : List Ob} : ∀ (k : Nat) (d : D), d.top ≤ n → Rw.frz os n k d = d
  | 0, d, _ => rfl
  | k + 1, d, h => by
    have all : ∀ xs : List D, topL xs ≤ n → xs.map (Rw.frz os n k) = xs := by
      intro xs
      induction xs with
      | nil => intro _; rfl
      | cons x xs ih =>
        intro h
        rw [List.map_cons, frz_id k x (Nat.le_trans (Nat.le_max_left _ _) h), ih (Nat.le_trans (Nat.le_max_right _ _) h)]
    cases d with
    | ref m =>
      have hm : ¬ n ≤ m := by
        have : m + 1 ≤ n := h
        omega
      unfold Rw.frz
      simp only [if_neg hm]
    | tup xs => show D.tup (xs.map (Rw.frz os n k)) = _; rw [all xs h]
    | lst xs => show D.lst (xs.map (Rw.frz os n k)) = _; rw [all xs h]
    | _ => rfl
/-- what a def gives -/
theorem leave_ok {al0 : AL} {H0 : Hp} {d : D} {f : Bool} {v : V} {Q : VK} {E : XK} (p : Post C K al0 H0 (rF C K) (leave n d f h) Q E) (hn : al0.r.length = n) (ex : Ext al0 H0 al H) (r : RepH C K H al h) (rd : (rF C K).r H0 al H h (d, f) v) : Q v H := by
  unfold leave at p
  have hl : n ≤ al.r.length := hn ▸ ex.len
  split at p
  · rename_i hf
    split at p
    · rename_i ht
      refine p (al.take n) H v (ex.take hn) (r.cut hl hf (Cut.take hl) fun _ _ => rfl) ⟨Rep.frz r hl 8 d rd.1 ht, fun z => ?_⟩
      rcases Bool.or_eq_true_iff.mp (show (f || flat h.os n d) = true from z) with z | z
      · obtain ⟨q, H1, o, rfl, hq, h1, rfl, r1, k⟩ := rd.2 z
        exact ⟨q, H1, o, rfl, hq, h1, rfl, r1.cut hl hf (Cut.take hl) fun _ _ => rfl, Kid.frz r1 hl 8 ht k⟩
      · cases d with
        | ref m =>
          unfold flat at z
          rw [Bool.and_eq_true] at z
          have hm : n ≤ m := of_decide_eq_true z.1
          have z2 := z.2
          have fin : ∀ {q : Addr} {o : HO}, v = .ref q → H q = some o → al.r[m]? = some (some q) → Kid C K (Rw.hid H q) (al.take n) (Rw.frz h.os n 8 (.ref m)) o → Fresh C K H0 (al.take n) H ⟨h.os.take n, h.fl⟩ (Rw.frz h.os n 8 (.ref m)) v := by
            intro q o ev hq a k
            have h0 : H0 q = none := by
              rcases ex.old m q a with ⟨h1, _⟩ | ⟨_, h1⟩
              · omega
              · exact h1
            refine ⟨q, Rw.hid H q, o, ev, h0, hid_same, hid_upd hq, r.cut hl hf (Cut.hid r hl hm a) (fun b hb => hid_ne fun z => ?_), k⟩
            subst z
            exact gone r hm a hb
          have er : ∀ o, h.os[m]? = some o → Rw.frz h.os n 8 (.ref m) = (match some o with | some (.lst xs) => .lst (xs.map (Rw.frz h.os n 7)) | some (.dT kvs) => .dT (kvs.map fun p => (p.1, Rw.frz h.os n 7 p.2)) | some (.dI kvs) => .dI (kvs.map fun p => (p.1, Rw.frz h.os n 7 p.2)) | _ => .ref m) := fun o eo => by
            show (if n ≤ m then _ else _) = _
            rw [if_pos hm, eo]
            all_goals (cases o <;> rfl)
          cases eo : h.os[m]? with
          | none => rw [eo] at z2; cases z2
          | some o =>
            rw [eo] at z2
            have hto : o.top ≤ n := of_decide_eq_true z2
            have er := er o eo
            cases o with
            | lst xs =>
              obtain ⟨q, ws, rfl, hq, rl, a⟩ := lst_at r rd.1 eo
              refine fin rfl hq a ?_
              rw [er]
              refine (repL_map (fun x hx w rw' => ?_) rl : RepL C K (Rw.hid H q) (al.take n) (xs.map (Rw.frz h.os n 7)) ws)
              rw [frz_id 7 x (topL_le.mp hto x hx)]
              exact Rep.cut (Cut.hid r hl hm a) x (topL_le.mp hto x hx) rw'
            | dT xs =>
              obtain ⟨q, ws, rfl, hq, rl, a⟩ := dT_at r rd.1 eo
              refine fin rfl hq a ?_
              rw [er]
              refine (repT_map' (fun x hx w rw' => ?_) rl : RepT C K (Rw.hid H q) (al.take n) (xs.map fun p => (p.1, Rw.frz h.os n 7 p.2)) ws)
              rw [frz_id 7 x.2 (topT_le.mp hto x hx)]
              exact Rep.cut (Cut.hid r hl hm a) x.2 (topT_le.mp hto x hx) rw'
            | dI xs =>
              obtain ⟨q, ws, rfl, hq, rl, a⟩ := dI_at r rd.1 eo
              refine fin rfl hq a ?_
              rw [er]
              refine (repI_map' (fun x hx w rw' => ?_) rl : RepI C K (Rw.hid H q) (al.take n) (xs.map fun p => (p.1, Rw.frz h.os n 7 p.2)) ws)
              rw [frz_id 7 x.2 (topI_le.mp hto x hx)]
              exact Rep.cut (Cut.hid r hl hm a) x.2 (topI_le.mp hto x hx) rw'
            | ins _ _ =>
              rw [er] at ht
              have : m + 1 ≤ n := ht
              omega
            | dead =>
              rw [er] at ht
              have : m + 1 ≤ n := ht
              omega
        | _ => cases z
    · exact p.elim
  · exact p al H v ex r rd
/-- a body's end, as what the def gives -/
theorem exit_ok {al0 : AL} {H0 : Hp} {o : O} {Q : VK} {E : XK} (p : Post C K al0 H0 (rF C K) (exitF n o) Q E) (hn : al0.r.length = n) : PostO C K al0 H0 o { nx := fun _ H' => Q .non H', rt := Q } (fun c d _ H' => E c d H') := by
  cases o with
  | rt d f h => exact fun al' H' v ex rh q => leave_ok p hn ex rh q
  | nx env h => exact fun al' H' σ ex rh re => leave_ok p hn ex rh ⟨rfl, fun z => nomatch z⟩
  | bk env h => exact p.elim
  | ct env h => exact p.elim
  | exc x env h =>
    unfold exitF at p
    dsimp only at p
    split at p
    · rename_i hf
      intro al' H' σ dx vs ex rh re xa
      have hl : n ≤ al'.r.length := hn ▸ ex.len
      refine p (al'.take n) H' dx vs (ex.take hn) (rh.cut hl hf.1 (Cut.take hl) fun _ _ => rfl) ⟨xa.dict, take_at xa.notAt, xa.len, RepL.cut (Cut.take hl) _ (by rw [hf.2]; exact Nat.zero_le _) xa.rep⟩
    · exact p.elim
  | bad => exact p
/-- the slots at the entry -/
theorem start_rep : ∀ {ds : List D} {vs : List V} (m : Nat), RepL C K H al ds vs → RepE C K H al (ds.map some ++ List.replicate m none) (vs.map some ++ List.replicate m none) := by
  intro ds vs m r
  have hl := r.length
  refine ⟨by simp [hl], fun i d e _ => ?_, fun i c fs e => ?_⟩
  · by_cases hi : i < ds.length
    · rw [List.getElem?_append_left (by simpa using hi), List.getElem?_map] at e
      obtain ⟨d', e1, e2⟩ := Option.map_eq_some_iff.mp e
      cases e2
      obtain ⟨v, e3, rv⟩ := r.get e1
      exact ⟨v, by rw [List.getElem?_append_left (by simp; omega), List.getElem?_map, e3]; rfl, rv⟩
    · rw [List.getElem?_append_right (by simpa using hi), List.getElem?_replicate] at e
      split at e <;> cases e
  · exfalso
    by_cases hi : i < ds.length
    · rw [List.getElem?_append_left (by simpa using hi), List.getElem?_map] at e
      obtain ⟨d', e1, e2⟩ := Option.map_eq_some_iff.mp e
      cases e2
      obtain ⟨v, _, rv⟩ := r.get e1
      exact (rv : False)
    · rw [List.getElem?_append_right (by simpa using hi), List.getElem?_replicate] at e
      split at e <;> cases e
end
end Rw
end

section
set_option Elab.async false
set_option linter.all false
set_option maxRecDepth 100000
set_option maxHeartbeats 4000000
/-! RfQ: exceptions: raise, try, what a suite asks of the exception. -/
namespace Rw
open PySem PySem.Spec PyProof.Rows L2
open PySem.W (Frag findIn subIn typeIn keepIn hasDictIn specialIn takesIn mroIn clsIn kitOne exmOne InstAt KitX Looks)
section
open PySem.W PySem.Calls
variable {prog : Program} {w : World} {A : Around} {E : Value → Shared → Prop} {s : Shared} {K : Frag} {x D : Addr} {ox : Obj} {od : Option Obj}
theorem findObj_dataO {C : Addr} {name : Str} {a g : Value} (hc : (clsIn K C).isSome = true) (ha : findIn K (.ref C) name = some (some a)) (hg : specialIn K a "__get__" = some (some g)) (ht : takesIn K a = some true) : findObj K C od name = some (.bind g a) := by
  obtain ⟨cd, hc⟩ := Option.isSome_iff_exists.mp hc
  unfold findObj
  rw [hc, Option.bind_some, ha, Option.bind_some]
  simp [hg, ht]
theorem kin_classO {Q : Option Value → Shared → Prop} (hga : findIn K (.ref D) "__getattribute__" = some (some (.builtin "BaseException.__getattribute__"))) (hgt : findIn K (.ref D) "__getattr__" = some none) (hsub : subIn K (.ref D) (.type "BaseException") = some true)
    (hdct : hasDictIn K D = true) (ha : findIn K (.ref D) "__class__" = some (some (.builtin "object.__class__")))
    (hn : specialIn K (.builtin "object.__class__") "__get__" = some (some (.builtin "getset_descriptor.__get__"))) (htk : takesIn K (.builtin "object.__class__") = some true) (hm : mroIn K D (.type "object") = some true)
    (X : K.In s.heap) (I : InstAt s.heap x ox D od) (h : Q (some (.ref D)) { s with toks := s.toks + 1 }) : wpAny (model prog w) A (getAttr? (.ref x) "__class__") Q E s := by
  have hf : findObj K D od "__class__" = some (.bind (.builtin "getset_descriptor.__get__") (.builtin "object.__class__")) := findObj_dataO (by obtain ⟨cd, hc, _⟩ := any_some hdct; rw [hc]; rfl) ha hn htk
  obtain ⟨hp, g, d, t, os⟩ := s
  have L0 := I.type (M := model prog w)
  have L1 := looks_findIn (M := model prog w) X hga
  have L2 := looks_findIn (M := model prog w) X hgt
  have L3 := looks_find (M := model prog w) X I hf
  have sub : Looks (model prog w) hp (isInstance (.ref x) (.type "BaseException")) true := L0.andThen (looks_subIn X hsub)
  have hx0 : (false && onTheHeap (Value.builtin "BaseException.__getattribute__")) = false := rfl
  have hx2 : (Value.builtin "BaseException.__getattribute__" == Value.builtin "object.__getattribute__") = false := by decide +kernel
  have hx1 : (onTheHeap (Value.ref D) && Value.builtin "BaseException.__getattribute__" == Value.builtin "object.__getattribute__") = false := by rw [hx2]; rfl
  unfold getAttr? getAttrBy? getAttrBy
  refine wpAny_bind (wpAny_mkText (wpAny_bind (wpAny_attempt (wpAny_holding (wpAny_bind (L0.at (wpAny_bind (L1.at ?_))))))))
  show wpAny _ _ (if (onTheHeap (Value.ref D) && Value.builtin "BaseException.__getattribute__" == Value.builtin "object.__getattribute__") = true then _ else _) _ _ _
  rw [hx1, if_neg Bool.false_ne_true]
  unfold getAttrByItsOwn hookBefore
  refine wpAny_bind ?_
  rw [if_pos (show onTheHeap (Value.ref D) = true from rfl)]
  refine L2.at ?_
  refine wpAny_bind (wpAny_attempt (wpAny_holding ?_))
  unfold callGetattribute
  rw [hx0, if_neg Bool.false_ne_true]
  unfold boundAndCalled
  rw [PySem.F.excAttr_ValueError.ga.bind (.ref x)]
  refine wpAny_bind (wpAny_pure ?_)
  show wpAny _ _ (call (.builtin "BaseException.__getattribute__") [.ref x, .str "__class__" t]) _ _ _
  refine wpAny_call (codeAny_call_builtin PySem.F.excAttr_ValueError.ga.plain PySem.F.entry_bexc_ga ?_)
  refine @check_slot (model prog w) _ _ ⟨hp, g, d, t + 1, os⟩ "BaseException.__getattribute__" "BaseException" "__getattribute__" (.ref x) [.str "__class__" t] [] _ (by decide +kernel) (by decide +kernel) sub (PySem.F.args_bexc_ga (.ref x) (.str "__class__" t)) ?_
  unfold Builtin.«object.__getattribute__»
  refine wpAny_bind (wpAny_of_eq (a := ((Value.ref x : Value), [Value.str "__class__" t])) (by first | rfl | (simp only [slotArgs]; rfl)) ?_)
  refine wpAny_bind (wpAny_pure (wpAny_bind (L0.at (wpAny_bind (L3.at ?_)))))
  show wpAny _ _ (holding [Value.builtin "object.__class__"] (call (.builtin "getset_descriptor.__get__") [.builtin "object.__class__", .ref x, .ref D]) >>= ret) _ _ _
  refine wpAny_bind (wpAny_holding (wpAny_call (class_get (s := ⟨hp, g, d, t + 1, os⟩) (ox := ox) (od := od) X I hm ?_)))
  refine wpAny_pure ?_
  show wpAny _ _ (handedOut (.ref D)) _ _ _
  rw [handedOut_of (v := .ref D) rfl]
  first
    | exact wpAny_pure (wpAny_pure h)
    | exact wpAny_pure h
    | exact wpAny_pure (wpAny_bind (wpAny_pure (wpAny_pure h)))
theorem kitx_excO (hga : findIn K (.ref D) "__getattribute__" = some (some (.builtin "BaseException.__getattribute__"))) (hgt : findIn K (.ref D) "__getattr__" = some none) (hsub : subIn K (.ref D) (.type "BaseException") = some true) (hdct : hasDictIn K D = true) (ha : findIn K (.ref D) "__class__" = some (some (.builtin "object.__class__")))
    (hn : specialIn K (.builtin "object.__class__") "__get__" = some (some (.builtin "getset_descriptor.__get__"))) (htk : takesIn K (.builtin "object.__class__") = some true) (hm : mroIn K D (.type "object") = some true) :
    KitX K (.ref x) (.ref D) (fun h => InstAt h x ox D od) where
  ty := fun _ _ _ I => I.type
  it := fun _ _ X _ => by
    obtain ⟨cdD, hcD, _⟩ := any_some hdct
    unfold clsIn at hcD
    split at hcD
    · rename_i c' d' cd' sl' ho
      intro A' Q' E' s' k q
      unfold isType loadHead
      exact wpAny_bind (wpAny_loadPart (k _ _ (X _ _ ho)) (wpAny_pure q))
    · cases hcD
  ne := fun h tp dd its n sl X htp => by
    obtain ⟨cdD, hcD, _⟩ := any_some hdct
    refine Bool.eq_false_iff.mpr fun q => ?_
    have e : D = tp := Value.ref.inj (beq_iff_eq.mp q)
    subst e
    unfold clsIn at hcD
    split at hcD
    · rename_i c' d' cd' sl' ho
      have z := (X _ _ ho).symm.trans htp
      cases z
    · cases hcD
  ca := fun X I k => kin_classO hga hgt hsub hdct ha hn htk hm X I k
end
/-! ### what the written part says of the classes -/
def oexB (K : Frag) (C : Addr) : Bool := match K.lookup C with
  | some ⟨.type "type", _, .cls cd, sl⟩ => (match cd.mro, sl.toList with
    | .ref C' :: bm, [_, _, _, _, some (.builtin n), _] => C' == C && (n == "ValueError.__new__" && (!cd.hasDel && (cd.hasDict && PySem.HandSPX.refsVE bm)))
    | _, _ => false)
  | _ => false
def oexAll (K : Frag) (C : Addr) : Bool := oexB K C && (decide (findIn K (.ref C) "__setattr__" = some (some (.builtin "object.__setattr__"))) && (decide (subIn K (.ref C) (.type "BaseException") = some true) && (decide (typeIn K (.ref C) = some (.type "type")) && keepIn K (.ref C))))
theorem oexAll_ok {K : Frag} {C : Addr} (h : oexAll K C = true) : OexC K C := by
  unfold oexAll at h
  simp only [Bool.and_eq_true, decide_eq_true_eq] at h
  obtain ⟨h1, h2, h3, h4, h5⟩ := h
  refine ⟨?_, h2, h3, h4, h5⟩
  unfold oexB at h1
  split at h1
  · rename_i dd cd sl ho
    split at h1
    · rename_i C' bm k0 k1 k2 k3 n k5 hm hs
      simp only [Bool.and_eq_true, beq_iff_eq, Bool.not_eq_true'] at h1
      obtain ⟨rfl, rfl, hdel, hdict, hbm⟩ := h1
      obtain ⟨nm, bs, mro, ns, qn, hd, sn, sub, ab, col, del⟩ := cd
      dsimp only at hm hdel hdict
      subst hm hdel hdict
      have hsl : sl = #[k0, k1, k2, k3, some (.builtin "ValueError.__new__"), k5] := by
        obtain ⟨l⟩ := sl
        simp only at hs
        rw [hs]
      subst hsl
      exact ⟨nm, qn, ns, bs, bm, sn, sub, ab, col, dd, k0, k1, k2, k3, k5, ho, hbm⟩
    · cases h1
  · cases h1
def excB (K : Frag) (D : Addr) : Bool := decide (findIn K (.ref D) "__getattribute__" = some (some (.builtin "BaseException.__getattribute__"))) && (decide (findIn K (.ref D) "__getattr__" = some none) && (decide (subIn K (.ref D) (.type "BaseException") = some true) && (hasDictIn K D && (decide (findIn K (.ref D) "__class__" = some (some (.builtin "object.__class__"))) &&
  (decide (specialIn K (.builtin "object.__class__") "__get__" = some (some (.builtin "getset_descriptor.__get__"))) && (decide (takesIn K (.builtin "object.__class__") = some true) && decide (mroIn K D (.type "object") = some true)))))))
theorem excB_ok {K : Frag} {D : Addr} (h : excB K D = true) : ExcC K D := by
  unfold excB at h
  simp only [Bool.and_eq_true, decide_eq_true_eq] at h
  obtain ⟨h1, h2, h3, h4, h5, h6, h7, h8⟩ := h
  exact ⟨h1, h2, h3, h4, h5, h6, h7, h8⟩
/-- the classes' facts: by number; 0 is ValueError -/
structure Xs (C : CI) (K : Frag) (anc : List (List Nat)) : Prop where
  v0 : C.cls 0 = .type "ValueError"
  own : ∀ n l, anc[n]? = some l → n ≠ 0 → ∃ D, C.cls n = .ref D ∧ OexC K D ∧ XfC K D ∧ ExcC K D ∧ (∀ f ∈ C.fld n, findIn K (.ref D) f = some none) ∧ (∀ m, m < anc.length → kitOne K (.ref D) (C.cls m) = some (l.contains m)) ∧ ∀ m, m < anc.length → m ≠ 0 → exmOne K (.ref D) (C.cls m) = some (l.contains m)
/-! ### isinstance of the caught exception -/
/-- isinstance(e, c), e the exception that the suite holds, its dict at dx -/
def rIsO (K : Frag) (D a dx : Addr) : List V → Hp → VK → Prop := fun xs H Q => ∃ (c : V) (cv : Value) (b : Bool) (fs : List (Str × V)), xs = [.ref a, c] ∧ (∀ u, RelV c u → u = cv) ∧ kitOne K (.ref D) cv = some b ∧ H dx = some (.xd fs) ∧ Q (.bl b) H
theorem call_isO {X : Cx} {a D dx : Addr} {oe : Obj} {pn : List (Addr × Obj)} (C : ExcC X.K D) (hz : Zc (.ref D) (some dx) oe) (hf : ∃ vs, oe.data = .fields vs) : CallR (X.suite a ((a, oe) :: pn)) (.builtin "isinstance") (rIsO X.K D a dx) := by
  intro pins s σ H xs us Q I r h
  obtain ⟨c, cv, b, fs, rfl, hcv, e, hd, q⟩ := h
  cases r with
  | cons rx rr =>
    cases rr with
    | cons rt rr =>
      cases rr
      cases rx
      have ec := hcv _ rt
      subst ec
      obtain ⟨hget, _⟩ := I.pin (a, oe) (List.mem_append.mpr (.inl List.mem_cons_self))
      obtain ⟨vs, hv⟩ := hf
      have hx : ObjOk X.prog X.w H s.heap dx (.xd fs) := I.hok dx _ hd
      obtain ⟨mA, hns, hr⟩ := hx
      obtain ⟨od, ho, hl⟩ := lookIn_ns hns
      have J : InstAt s.heap a oe D (some od) := by
        refine ⟨hget, hz.1, by unfold PySem.W.notCls; rw [hv] <;> rfl, by rw [hz.2]; exact ho⟩
      exact PySem.W.kia_one (kitx_excO C.hg C.hk C.hs C.hd C.ha C.hn C.ht C.hm) I.kIn J e (fun z => nomatch z) fun tk => ⟨.bl b, H, I.kept (t' := tk) fun _ _ z => z, rfl, q⟩
/-- the suite's context -/
def InSuite (C : CI) (X : Cx) : Prop := ∀ a n dx, C.xa = some (a, n, dx) → ∃ (X0 : Cx) (oe : Obj) (pn : List (Addr × Obj)), X = X0.suite a ((a, oe) :: pn) ∧ Zc (C.cls n) (some dx) oe ∧ ∃ vs, oe.data = .fields vs
section
variable {C : CI} {X : Cx} {W : WX} {pos : Pos}
theorem pe_none {e : Expr} : PE X e (fun _ _ _ => False) := ⟨fun pins s σ H Q I q => q.elim⟩
/-- what the suite holds, if it holds one -/
theorem se_xi {i m : Nat} {K : Kn} {x y : Str} {p1 p2 p3 : Pos} (S : InSuite C X) (xs : Xs C X.K K.anc) (hm : m < K.anc.length) (hg : Gl X "isinstance") (hi : X.mg "isinstance" = none) (hN : X.N[i]? = some x) (hv : Vis X.env.scope x) (hd : (x == ("__debug__" : Str)) = false) (hcd : (x == ("__classdict__" : Str)) = false)
    (hy : ∃ u : V, (∀ z, RelV u z → z = C.cls m) ∧ PE X (.Name y p3) (tC u)) :
    PE X (.Call (.Name "isinstance" p1) [.Name x p2, .Name y p3] [] pos) (tE C X.K W fun env h => match env[i]? with
      | some (some (.exc d _)) => if d = 0 then .bad else opt h (K.anc[d]?.map fun l => (.bl (l.contains m), false))
      | _ => .bad) := by
  obtain ⟨u, hu, hyy⟩ := hy
  -- the reading fails without a caught exception
  cases exa : C.xa with
  | none =>
    refine PE.imp pe_none fun σ H Q q => ?_
    obtain ⟨al, env, h, rh, re, p⟩ := q
    dsimp only at p
    split at p
    · rename_i d fs e
      obtain ⟨_, v, _, a, dx, vs, e1, _⟩ := re.ex i d fs e
      rw [exa] at e1
      cases e1
    · exact p
  | some t =>
    obtain ⟨a, n, dx⟩ := t
    obtain ⟨X0, oe, pn, rfl, hz, hf⟩ := S a n dx exa
    by_cases hl : n = 0 ∨ K.anc[n]? = none
    · refine PE.imp pe_none fun σ H Q q => ?_
      obtain ⟨al, env, h, rh, re, p⟩ := q
      dsimp only at p
      split at p
      · rename_i d fs e
        obtain ⟨_, v, _, a', dx', vs, e1, _⟩ := re.ex i d fs e
        rw [exa] at e1
        cases e1
        split at p
        · exact p
        · rename_i h0
          rcases hl with hl | hl
          · exact h0 hl
          · rw [hl] at p; exact p
      · exact p
    · have h0 : n ≠ 0 := fun z => hl (.inl z)
      obtain ⟨l, hn⟩ : ∃ l, K.anc[n]? = some l := Option.ne_none_iff_exists'.mp fun z => hl (.inr z)
      obtain ⟨D, eD, _, _, ec, _, hk, _⟩ := xs.own n l hn h0
      rw [eD] at hz
      have hA : PA (X0.suite a ((a, oe) :: pn)) [.Name x p2, .Name y p3] (tCons (tVar i) (tCons (tC u) tNil)) := pa_cons (pe_var hN hv hd hcd) (pa_cons hyy pa_nil (star1 rfl)) (star1 rfl)
      refine (pe_callB (call_isO ec hz hf) hg hi rfl hA (by decide) (by decide) (star1 rfl) (star_any rfl)).imp fun σ H Q q => ?_
      obtain ⟨al, env, h, rh, re, p⟩ := q
      dsimp only at p
      split at p
      · rename_i d fs e
        obtain ⟨_, v, hσ, a', dx', vs, e1, rfl, hdx, hna, hle, hre⟩ := re.ex i d fs e
        rw [exa] at e1
        cases e1
        rw [if_neg h0, hn] at p
        refine ⟨.ref a, hσ, u, C.cls m, l.contains m, _, rfl, hu, hk m hm, hdx, ?_⟩
        exact p.same rh rfl rfl
      · exact p.elim
theorem zip_lookup {f : Str} : ∀ {fl : List Str} {vs : List V} {j : Nat} {v : V}, fl.Nodup → fl[j]? = some f → vs[j]? = some v → (fl.zip vs).lookup f = some v
  | [], _, _, _, _, e, _ => by simp at e
  | _ :: _, [], _, _, _, _, e => by simp at e
  | g :: fl, w :: vs, 0, v, _, e1, e2 => by
    simp at e1 e2
    subst e1 e2
    simp [List.lookup]
  | g :: fl, w :: vs, j + 1, v, nd, e1, e2 => by
    have e1' : fl[j]? = some f := by simpa using e1
    have e2' : vs[j]? = some v := by simpa using e2
    have hne : (f == g) = false := by
      have := (List.nodup_cons.mp nd).1
      simp
      intro z
      subst z
      exact this (List.mem_of_getElem? e1')
    rw [List.zip_cons_cons, List.lookup, hne]
    exact zip_lookup (List.nodup_cons.mp nd).2 e1' e2'
theorem se_xf {i k : Nat} {K : Kn} {x f : Str} {p : Pos} (S : InSuite C X) (xs : Xs C X.K K.anc) (hfl : ∀ n l j, n ≠ 0 → K.fld[n]? = some l → l.findIdx? (· == k) = some j → (C.fld n)[j]? = some f ∧ (C.fld n).Nodup ∧ ∃ l', K.anc[n]? = some l') (hN : X.N[i]? = some x) (hv : Vis X.env.scope x) (hd : (x == ("__debug__" : Str)) = false) (hcd : (x == ("__classdict__" : Str)) = false) (hb : noCall (.Name x p) = true) :
    PE X (.Attribute (.Name x p) f pos) (tE C X.K W fun env h => match env[i]? with
      | some (some (.exc c fs)) => if c = 0 then .bad else opt h ((K.fld[c]?.bind fun l => l.findIdx? (· == k)).bind fun j => fs[j]?.map fun d => (d, false))
      | _ => .bad) := by
  cases exa : C.xa with
  | none =>
    refine PE.imp pe_none fun σ H Q q => ?_
    obtain ⟨al, env, h, rh, re, p⟩ := q
    dsimp only at p
    split at p
    · rename_i d fs e
      obtain ⟨_, v, _, a, dx, vs, e1, _⟩ := re.ex i d fs e
      rw [exa] at e1
      cases e1
    · exact p
  | some t =>
    obtain ⟨a, n, dx⟩ := t
    obtain ⟨X0, oe, pn, rfl, hz, hf⟩ := S a n dx exa
    by_cases hl : n = 0 ∨ (K.fld[n]?.bind fun l => l.findIdx? (· == k)) = none
    · refine PE.imp pe_none fun σ H Q q => ?_
      obtain ⟨al, env, h, rh, re, p⟩ := q
      dsimp only at p
      split at p
      · rename_i d fs e
        obtain ⟨_, v, _, a', dx', vs, e1, _⟩ := re.ex i d fs e
        rw [exa] at e1
        cases e1
        split at p
        · exact p
        · rename_i h0
          rcases hl with hl | hl
          · exact h0 hl
          · rw [hl] at p; exact p
      · exact p
    · have h0 : n ≠ 0 := fun z => hl (.inl z)
      obtain ⟨j, hj⟩ : ∃ j, (K.fld[n]?.bind fun l => l.findIdx? (· == k)) = some j := Option.ne_none_iff_exists'.mp fun z => hl (.inr z)
      obtain ⟨l, hl1, hl2⟩ := Option.bind_eq_some_iff.mp hj
      obtain ⟨hf1, hnd, l', hn⟩ := hfl n l j h0 hl1 hl2
      obtain ⟨D, eD, _, xfc, _, hno, _, _⟩ := xs.own n l' hn h0
      rw [eD] at hz
      refine (pe_xf xfc (hno f (List.mem_of_getElem? hf1)) hz hf (pe_var hN hv hd hcd) rfl).imp fun σ H Q q => ?_
      obtain ⟨al, env, h, rh, re, p⟩ := q
      dsimp only at p
      split at p
      · rename_i d fs e
        obtain ⟨_, v, hσ, a', dx', vs, e1, rfl, hdx, hna, hle, hre⟩ := re.ex i d fs e
        rw [exa] at e1
        cases e1
        rw [if_neg h0, hj, Option.bind_some] at p
        obtain ⟨y, ey, p⟩ := p.opt
        obtain ⟨z, ez, rfl⟩ := Option.map_eq_some_iff.mp ey
        obtain ⟨vz, evz, rz⟩ := hre.get ez
        exact ⟨.ref a, hσ, rfl, rfl, dx, _, vz, rfl, hdx, zip_lookup hnd hf1 evz, p.same rh rz rfl⟩
      · exact p.elim
end
end Rw
end

section
set_option Elab.async false
set_option linter.all false
set_option maxRecDepth 100000
set_option maxHeartbeats 4000000
/-! RfR: raise, try. -/
namespace Rw
open PySem PySem.Spec PyProof.Rows L2
open PySem.W (Frag findIn subIn typeIn keepIn exmOne)
/-! ### an exception is made -/
/-- what a class's __init__(self, f): self.f = f promises -/
def spIn (D : Addr) (f : Str) : Sp := fun vs H Q _ => ∃ (a : Addr) (y : V), vs = [.ref a, y] ∧ H a = some (exo a D none) ∧ ∀ dx, H dx = none → dx ≠ a → Q .non (upd (upd H dx (exd dx [(f, y)])) a (exo a D (some dx)))
/-- its body -/
def initB (self f : Str) (body : List Stmt) : Bool := match body with
  | [.Assign [.Attribute (.Name s _) g _] (.Name x _) _] => s == self && (g == f && x == f)
  | _ => false
theorem init_ok {Pr : Program} {w : World} {K : Frag} {mg : Str → Option Value} {base : Heap} {nm qual self f : Str} {params : Arguments} {body : List Stmt} {sc : Scope} {fI D : Addr} {fd : FuncData} (F : FunD K nm qual params body sc [] [] fI fd) (S : FnScope [self, f] [self, f] sc)
    (T : OexC K D) (hno : findIn K (.ref D) f = some none) (hb : initB self f body = true) (n1 : (self == ("__debug__" : Str)) = false) (n2 : (self == ("__classdict__" : Str)) = false) (n3 : (f == ("__debug__" : Str)) = false) (n4 : (f == ("__classdict__" : Str)) = false) (hv1 : Vis sc self) (hv2 : Vis sc f) : FnOk Pr w K mg base (L2.CX Pr w) 1 fI fd [self, f] (spIn D f) := by
  refine F.ok (k := 0) S (fun vs H Q E ⟨a, y, e, _⟩ => by rw [e]; rfl) fun cdv A outer s H vs Q E hr ⟨a, y, e, he, hq⟩ => ?_
  subst e
  unfold initB at hb
  split at hb
  · rename_i s' p1 g p2 x p3 p4
    simp only [Bool.and_eq_true, beq_iff_eq] at hb
    obtain ⟨rfl, rfl, rfl⟩ := hb
    refine ⟨_, pss_one (ps_ost (pe_var (i := 0) rfl hv1 n1 n2) (pe_var (i := 1) rfl hv2 n3 n4)), ?_⟩
    exact ⟨y, rfl, .ref a, rfl, a, D, rfl, T, hno, .inl ⟨he, fun dx n ne => hq dx n ne⟩⟩
  · cases hb
section
variable {C : CI} {X : Cx} {W : WX} {pos : Pos}
/-- how a class's exceptions are made, in a context -/
structure MkN (C : CI) (X : Cx) (n : Nat) (x : Str) : Prop where
  of : ∃ (D fI : Addr) (fd : FuncData) (self f : Str), C.cls n = .ref D ∧ C.fld n = [f] ∧ OexC X.K D ∧ findIn X.K (.ref D) "__init__" = some (some (.ref fI)) ∧ typeIn X.K (.ref fI) = some (.type "function") ∧ FnOk X.prog X.w X.K X.mg X.base (L2.CX X.prog X.w) 1 fI fd [self, f] (spIn D f) ∧ Binds X.K fd [self, f] [] ∧ X.mg x = some (.ref D)
theorem sp_rse {n : Nat} {x : Str} {p p2 : Pos} {e : Expr} {ms : Env → AH → R (List D)} (M : MkN C X n x) (hc : X.calm = true) (tk : Takes X W) (hr : Room 2 X.A) (hg : Gl X x) (hd : (x == ("__debug__" : Str)) = false) (ha : PA X [e] (tA C X.K W ms)) (hs : noStar e = true) :
    PS X (.Raise (some (.Call (.Name x p) [e] [] p2)) none pos) (sT C X.K W fun env h => (ms env h).o env fun ds h1 => if ds.length = 1 then .exc ⟨n, ds⟩ env h1 else .bad) := by
  obtain ⟨D, fI, fd, self, f, eC, eF, T, iC, tI, F1, hb, hm⟩ := M.of
  have pm := pmk_oex (pos := p2) (p := p) (ds := []) (dvs := []) T iC tI F1 hr hb .nil (fun pins σ H s e s' I z => tk e s' (XE.of_call I (fun _ _ _ h => h.elim) z)) hg hm ha hd (star1 hs) (star_any rfl)
  refine (ps_raise hc tk pm).imp fun Dn σ H q => ?_
  obtain ⟨al, env, h, rh, re, p⟩ := q
  refine ⟨al, env, h, rh, re, (PostO.o (rl := rL C X.K) re p).imp (fun vs H1 q => ?_) fun _ _ _ q => q⟩
  obtain ⟨al1, h1, ds, rh1, re1, ex, rd, p1⟩ := q
  split at p1
  · rename_i hl
    have rd : RepL C X.K H1 al1 ds vs := rd
    obtain ⟨y, rfl⟩ : ∃ y, vs = [y] := by
      have := rd.length
      rw [hl] at this
      exact List.length_eq_one_iff.mp this.symm
    refine ⟨by simp, fun a na => ⟨a, y, rfl, upd_same, fun dx nd ne => ⟨rfl, dx, [(f, y)], upd_same, ?_, ?_, ?_⟩⟩⟩
    · rw [upd_ne ne, upd_same]
    · rw [upd_ne ne] at nd; exact nd
    · have nd : H1 dx = none := by rw [upd_ne ne] at nd; exact nd
      have eH : upd (del (upd (upd (upd H1 a (exo a D none)) dx (exd dx [(f, y)])) a (exo a D (some dx))) a) dx (.xd [(f, y)]) = upd H1 dx (.xd [(f, y)]) := by
        funext b
        by_cases hb : b = dx
        · subst hb; rw [upd_same, upd_same]
        · rw [upd_ne hb, upd_ne hb]
          by_cases ha : b = a
          · subst ha; rw [del_same, na]
          · rw [del_ne ha, upd_ne ha, upd_ne hb, upd_ne ha]
      rw [eH]
      have ex2 : Ext al1 H1 al1 (upd H1 dx (.xd [(f, y)])) := Ext.new nd
      have := p1 al1 _ σ dx [y] (ex.trans ex2) (rh1.new nd) (re1.ext ex2) ⟨by rw [eF]; exact upd_same, rh1.notAt nd, by rw [eF]; rfl, RepL.ext ex2 _ rd⟩
      rw [eC] at this
      exact this
  · exact p1.elim
end
/-! ### try: several clauses, with names or without -/
abbrev Cl1 : Type := Value × Option Nat × (Addr → Value → Option Addr → TS)
/-- what the name's going leaves -/
def outN (D : Ends) : Option Nat → Ends
  | none => D
  | some i => { nx := fun σ' H' => D.nx (σ'.set i none) H', rt := D.rt, bk := fun σ' H' => D.bk (σ'.set i none) H', ct := fun σ' H' => D.ct (σ'.set i none) H' }
def inN (σ : L2.St) (a : Addr) : Option Nat → L2.St
  | none => σ
  | some i => σ.set i (some (.ref a))
/-- what the clauses wish of an exception of the body, one after the other -/
def wGen (K : Frag) (Wout : WX) (D : Ends) : List Cl1 → WX
  | [] => Wout
  | (c, i, ts) :: r => fun cls d σ H => ∃ b, exmOne K cls c = some b ∧ (b = true → ∀ a, H a = none → ts a cls d (outN D i) (inN σ a i) H) ∧ (b = false → wGen K Wout D r cls d σ H)
inductive HdsG (X : Cx) : List ExceptHandler → List Cl1 → Prop
  | nil : HdsG X [] []
  | bare {x : Str} {c : Value} {ts : Addr → Value → Option Addr → TS} {b₀ : Stmt} {suite : List Stmt} {np pos' : Pos} {hds : List ExceptHandler} {l : List Cl1} (hc : Names X x c)
      (hsu : ∀ (a : Addr) (oe : Obj) (cls : Value) (d : Option Addr) (pn : List (Addr × Obj)), Zc cls d oe → (∃ vs, oe.data = .fields vs) → PSs (X.suite a ((a, oe) :: pn)) (b₀ :: suite) (ts a cls d)) (r : HdsG X hds l) :
      HdsG X (.ExceptHandler (some (.Name x np)) none (b₀ :: suite) pos' :: hds) ((c, none, ts) :: l)
  | named {x n : Str} {i : Nat} {c : Value} {ts : Addr → Value → Option Addr → TS} {b₀ : Stmt} {suite : List Stmt} {np pos' : Pos} {hds : List ExceptHandler} {l : List Cl1} (hc : Names X x c) (hi : X.N[i]? = some n) (hln : X.env.kindOf n = some .local)
      (hsu : ∀ (a : Addr) (oe : Obj) (cls : Value) (d : Option Addr) (pn : List (Addr × Obj)), Zc cls d oe → (∃ vs, oe.data = .fields vs) → PSs (X.suite a ((a, oe) :: pn)) (b₀ :: suite) (ts a cls d)) (r : HdsG X hds l) :
      HdsG X (.ExceptHandler (some (.Name x np)) (some n) (b₀ :: suite) pos' :: hds) ((c, some i, ts) :: l)
section
variable {X : Cx} {body : List Stmt} {h₀ : ExceptHandler} {hds : List ExceptHandler} {l : List Cl1} {pos : Pos} {tb : WX → TS} {Wout : WX}
theorem ps_try_gen (hs : X.stack = X.env :: X.outer) (hf : X.env.frame = some X.env.locals) (hN : X.N.Nodup) (tk : Takes X Wout)
    (hb : ∀ (W : WX) (pn : List (Addr × Obj)) (xe : Value → Shared → Prop), Takes (X.tr pn xe) W → PassesOwn (model X.prog X.w) X.A X.env xe → PSs (X.tr pn xe) body (tb W))
    (hh : HdsG X (h₀ :: hds) l) : PS X (.Try body (h₀ :: hds) [] [] pos) (fun D σ H => tb (wGen X.K Wout D l) D σ H) := by
  refine ⟨fun pins s σ H D I h => ?_⟩
  have ok := I.ok
  have hfr : X.A.frames = some (X.env :: X.outer) := by rw [ok.frames, hs]
  refine wpAny_Try_except ?_
  refine wpAny_mono ((hb (wGen X.K Wout D l) (X.pn ++ pins) (fun e s₁ => wpAny (model X.prog X.w) X.A (noteFrame e X.env) (fun _ s₂ => wpAny (model X.prog X.w) X.A (setFlight e none) (fun _ s₃ =>
    wpAny (model X.prog X.w) X.A (handleBy e X.env (h₀ :: hds)) (SP X pins D) X.xe s₃) X.xe s₂) X.xe s₁) (fun u s' xx => ?_) PassesOwn.looking).run [] s σ H D (I.toTry _) h) (fun f s1 hsp => ?_) (fun e s1 he => he)
  · obtain ⟨a, B, sI, pins', σ', H', cls, d, rfl, J', nb, up, sky, na, os, ag, w⟩ := xx
    have J : Inv X pins σ' H' sI := J'.ofTry ok
    have sky' : Sky B (X.env :: X.outer) a (Zc cls d) X.env.locals s'.heap := by rw [← hs]; exact sky
    show wpAny (model X.prog X.w) X.A (noteFrame (.ref a) X.env) _ _ _
    refine Sky.land Zc.steady hfr hf sky' fun h3 fl3 up3 => ?_
    have J3 : Inv X pins σ' H' { s' with heap := h3 } := J.landed nb fl3.1 (up.trans up3) os ag
    obtain ⟨oe3, vs3, he3, hz3, hd3⟩ := fl3.there
    have notFr : ∀ {h : Heap} {o : Obj} {vs : Array Value}, h.FunFrames B (X.env :: X.outer) → h.get? a = some o → o.data = .fields vs → a ∉ frs (X.env :: X.outer) := fun {h o vs} ff e dd hm => by
      obtain ⟨_, o', e', hnf⟩ := ff.mem hm
      rw [e] at e'; cases e'
      exact hnf _ dd
    have nfr := notFr fl3.2.2.1 he3 hd3
    have nL : a ≠ X.env.locals := fun z => nfr (List.mem_filterMap.mpr ⟨X.env, List.mem_cons_self, by rw [hf, z]⟩)
    have nF : a ∉ X.fs := fun hm => by
      obtain ⟨e, he, q⟩ := List.mem_filterMap.mp hm
      exact nfr (List.mem_filterMap.mpr ⟨e, List.mem_cons_of_mem _ he, q⟩)
    have S3 := J3.suite he3 hd3 na nL nF
    have go : ∀ {hds' : List ExceptHandler} {l' : List Cl1}, HdsG X hds' l' → wGen X.K Wout D l' cls d σ' H' →
        wpAny (model X.prog X.w) X.A (handleBy (.ref a) X.env hds') (SP X pins D) X.xe { s' with heap := h3 } := by
      intro hds' l' hk
      have LT : PySem.W.Looks (model X.prog X.w) h3 (typeOf (.ref a)) cls := fun A Q E s k q => wpAny_typeOf_ref (k _ _ he3) (by rw [hz3.1]; exact q)
      have test : ∀ {x : Str} {c : Value} {np : Pos} {Q : Value → Shared → Prop} {E : Value → Shared → Prop}, Names X x c → Q c { s' with heap := h3 } → wpAny (model X.prog X.w) (X.A.mark (some (.ref a))) (eval (.Name x np) X.env) Q E { s' with heap := h3 } := fun {x c np Q E} hc q => by
        obtain ⟨hg, hdbg, hm | ⟨hm, hv, hnn⟩⟩ := hc
        · exact ld_glob (X := X.suite a ((a, oe3) :: (X.pn ++ pins))) S3 hg hm q hdbg
        · exact ld_blt (X := X.suite a ((a, oe3) :: (X.pn ++ pins))) S3 hg hm hv q hnn hdbg
      induction hk with
      | nil =>
        intro w
        refine wpAny_handleBy_nil ?_
        obtain ⟨k1, k2, k3, oe, vs, T, oT, ts', he, hz, hd, h1, hr⟩ := id fl3
        unfold PySem.passOn
        refine wpAny_bind (wpAny_field he hd h1 ?_)
        rw [if_neg (show ¬ ((Value.ref T == Value.none) = true) from by simp)]
        have fin : wpAny (model X.prog X.w) X.A (setFlight (.ref a) X.env.frame) (fun _ s4 => wpAny (model X.prog X.w) X.A (throw (.ref a) : Sem Flow) (SP X pins D) X.xe s4) X.xe { s' with heap := h3 } := by
          rw [hf]
          refine HandSPX.setFlight_upZ fl3 fun h4 hh4 up4 => wpAny_throw (tk _ _ ?_)
          exact ⟨a, B, sI, pins, σ', H', cls, d, rfl, J, nb, (up.trans up3).trans up4, .inr (.inr (by rw [hs]; exact hh4)), na, os, ag, w⟩
        first
          | exact wpAny_bind (wpAny_pure (wpAny_bind fin))
          | exact wpAny_bind fin
      | @bare x c ts b₀ suite np pos' hds2 l2 hc hsu r ih =>
        intro w
        obtain ⟨b, hb1, hyes, hno⟩ := w
        refine wpAny_handleBy_cons (codeAny_handlers_test ?_) (by intro q; cases q)
        have LM := PySem.W.exm_one (M := model X.prog X.w) (J3.kIn) LT hb1
        refine test hc (LM.here ?_)
        cases b with
        | true =>
          refine codeAny_handlers_suite ?_
          refine HandSPX.lands_againZ fl3 fun h4 fl4 up4 => ?_
          have J4 : Inv X pins σ' H' { s' with heap := h4 } := J.landed nb fl4.1 ((up.trans up3).trans up4) os ag
          obtain ⟨oe4, vs4, he4, hz4, hd4⟩ := fl4.there
          have S4 := J4.suite he4 hd4 na nL nF
          refine wpAny_mono ((hsu a oe4 cls d (X.pn ++ pins) hz4 ⟨_, hd4⟩).run [] _ _ H' _ S4 (hyes rfl a na)) (fun f s6 hsp => ?_) (fun _ _ z => False.elim z)
          cases f with
          | next =>
            obtain ⟨σ6, H6, S6, q6⟩ := hsp
            exact ⟨_, _, S6.unsuite ok, q6⟩
          | brk =>
            obtain ⟨σ6, H6, S6, q6⟩ := hsp
            exact ⟨_, _, S6.unsuite ok, q6⟩
          | cont =>
            obtain ⟨σ6, H6, S6, q6⟩ := hsp
            exact ⟨_, _, S6.unsuite ok, q6⟩
          | ret u =>
            obtain ⟨v6, σ6, H6, S6, r6, q6⟩ := hsp
            exact ⟨_, _, _, S6.unsuite ok, r6, q6⟩
        | false =>
          show wpAny _ X.A (handleBy (.ref a) X.env hds2) _ _ _
          exact ih (hno rfl)
      | @named x n i c ts b₀ suite np pos' hds2 l2 hc hi hln hsu r ih =>
        intro w
        obtain ⟨b, hb1, hyes, hno⟩ := w
        have hloc : Loc X.env.scope n := .inl hln
        refine wpAny_handleBy_cons (codeAny_handlers_test ?_) (by intro q; cases q)
        have LM := PySem.W.exm_one (M := model X.prog X.w) (J3.kIn) LT hb1
        refine test hc (LM.here ?_)
        cases b with
        | true =>
          refine codeAny_handlers_suite_as ?_
          refine HandSPX.lands_againZ fl3 fun h4 fl4 up4 => ?_
          have J4 : Inv X pins σ' H' { s' with heap := h4 } := J.landed nb fl4.1 ((up.trans up3).trans up4) os ag
          obtain ⟨oe4, vs4, he4, hz4, hd4⟩ := fl4.there
          have S4 := J4.suite he4 hd4 na nL nF
          refine store_ok (X := X.suite a ((a, oe4) :: (X.pn ++ pins))) (v := .ref a) S4 hN hi hloc rfl (fun s5 S5 => ?_) (.inr hln)
          refine wpAny_mono ((hsu a oe4 cls d (X.pn ++ pins) hz4 ⟨_, hd4⟩).run [] s5 _ H' _ S5 (hyes rfl a na)) (fun f s6 hsp => ?_) (fun _ _ z => False.elim z)
          have end_ : ∀ {σ6 : L2.St} {H6 : Hp} {Q : Shared → Prop}, Inv (X.suite a ((a, oe4) :: (X.pn ++ pins))) [] σ6 H6 s6 → (∀ s7, Inv X pins (σ6.set i none) H6 s7 → Q s7) →
              wpAny (model X.prog X.w) X.A (do bindName X.env n .none; unbindBehindTheSuite X.env n pos') (fun _ s7 => Q s7) X.xe s6 := fun {σ6 H6 Q} S6 hq => gone_ok (S6.unsuite ok) hN hi hln hq
          cases f with
          | next =>
            obtain ⟨σ6, H6, S6, q6⟩ := hsp
            exact end_ S6 fun s7 J7 => ⟨_, _, J7, q6⟩
          | brk =>
            obtain ⟨σ6, H6, S6, q6⟩ := hsp
            exact end_ S6 fun s7 J7 => ⟨_, _, J7, q6⟩
          | cont =>
            obtain ⟨σ6, H6, S6, q6⟩ := hsp
            exact end_ S6 fun s7 J7 => ⟨_, _, J7, q6⟩
          | ret u =>
            obtain ⟨v6, σ6, H6, S6, r6, q6⟩ := hsp
            exact end_ S6 fun s7 J7 => ⟨_, _, _, J7, r6, q6⟩
        | false =>
          show wpAny _ X.A (handleBy (.ref a) X.env hds2) _ _ _
          exact ih (hno rfl)
    exact go hh w
  · cases f with
    | next =>
      obtain ⟨σ', H', J', q⟩ := hsp
      exact wpAny_execs_nil ⟨σ', H', J'.ofTry ok, q⟩
    | brk =>
      obtain ⟨σ', H', J', q⟩ := hsp
      exact ⟨σ', H', J'.ofTry ok, q⟩
    | cont =>
      obtain ⟨σ', H', J', q⟩ := hsp
      exact ⟨σ', H', J'.ofTry ok, q⟩
    | ret u =>
      obtain ⟨v, σ', H', J', r, q⟩ := hsp
      exact ⟨v, σ', H', J'.ofTry ok, r, q⟩
end
end Rw
end

section
set_option Elab.async false
set_option linter.all false
set_option maxRecDepth 100000
set_option maxHeartbeats 4000000
/-! RfU: a try, by the evaluator. -/
namespace Rw
open PySem PySem.Spec PyProof.Rows L2
open PySem.W (Frag exmOne)
/-- with the exception that a suite holds -/
def CI.at (C : CI) (a : Addr) (n : Nat) (dx : Addr) (i : Option Nat) : CI := { C with xa := some (a, n, dx), xi := i }
section
variable {C1 C2 : CI} {K : Frag} {H : Hp} {al : AL}
mutual
theorem Rep.ci : ∀ (d : D) {v : V}, Rep C1 K H al d v → Rep C2 K H al d v
  | .non, _, h => h
  | .bl _, _, h => h
  | .int _, _, h => h
  | .str _, _, h => h
  | .tup xs, v, h => by
    obtain ⟨p, vs, e, t, r⟩ := h
    exact ⟨p, vs, e, t, RepL.ci xs r⟩
  | .lst xs, v, h => by
    obtain ⟨p, vs, e, t, r⟩ := h
    exact ⟨p, vs, e, t, RepL.ci xs r⟩
  | .dT xs, v, h => by
    obtain ⟨p, vs, e, t, r⟩ := h
    exact ⟨p, vs, e, t, RepT.ci xs r⟩
  | .dI xs, v, h => by
    obtain ⟨p, vs, e, t, r⟩ := h
    exact ⟨p, vs, e, t, RepI.ci xs r⟩
  | .ref n, v, h => h
  | .scr ns, v, h => h
  | .ktp xs, v, h => by
    obtain ⟨p, vs, e, t, r⟩ := h
    exact ⟨p, vs, e, t, RepL.ci xs r⟩
  | .exc _ _, _, h => h
theorem RepL.ci : ∀ (ds : List D) {vs : List V}, RepL C1 K H al ds vs → RepL C2 K H al ds vs
  | [], _, h => h
  | d :: ds, _, h => by
    obtain ⟨v, r, e, h1, h2⟩ := h
    exact ⟨v, r, e, Rep.ci d h1, RepL.ci ds h2⟩
theorem RepT.ci : ∀ (ds : List (List Int × D)) {vs : List (List Key × V)}, RepT C1 K H al ds vs → RepT C2 K H al ds vs
  | [], _, h => h
  | (k, d) :: ds, _, h => by
    obtain ⟨v, r, e, h1, h2⟩ := h
    exact ⟨v, r, e, Rep.ci d h1, RepT.ci ds h2⟩
theorem RepI.ci : ∀ (ds : List (Int × D)) {vs : List (Key × V)}, RepI C1 K H al ds vs → RepI C2 K H al ds vs
  | [], _, h => h
  | (k, d) :: ds, _, h => by
    obtain ⟨v, r, e, h1, h2⟩ := h
    exact ⟨v, r, e, Rep.ci d h1, RepI.ci ds h2⟩
end
theorem RepO.ci {p : Addr} {o : Ob} (r : RepO C1 K H al p o) : RepO C2 K H al p o := by
  cases o with
  | lst xs => obtain ⟨vs, h1, h2⟩ := r; exact ⟨vs, h1, RepL.ci xs h2⟩
  | dT xs => obtain ⟨vs, h1, h2⟩ := r; exact ⟨vs, h1, RepT.ci xs h2⟩
  | dI xs => obtain ⟨vs, h1, h2⟩ := r; exact ⟨vs, h1, RepI.ci xs h2⟩
  | ins _ _ => exact r.elim
  | dead => trivial
theorem RepH.ci {h : AH} (r : RepH C1 K H al h) : RepH C2 K H al h where
  len := r.len
  inj := r.inj
  trk := r.trk
  nt := r.nt
  dis := r.dis
  ob := fun n o e => by
    rcases r.ob n o e with z | ⟨b, h1, h2⟩
    · exact .inl z
    · exact .inr ⟨b, h1, h2.ci⟩
  top := r.top
theorem Kid.ci {d : D} {o : HO} (k : Kid C1 K H al d o) : Kid C2 K H al d o := by
  cases d with
  | lst xs =>
    cases o with
    | lst vs => exact RepL.ci xs k
    | _ => exact k.elim
  | dT xs =>
    cases o with
    | dT vs => exact RepT.ci xs k
    | _ => exact k.elim
  | dI xs =>
    cases o with
    | dK vs => exact RepI.ci xs k
    | _ => exact k.elim
  | _ => exact k.elim
theorem Fresh.ci {H' : Hp} {h : AH} {d : D} {v : V} (f : Fresh C1 K H al H' h d v) : Fresh C2 K H al H' h d v := by
  obtain ⟨q, H0, o, a, b, c, e, r, k⟩ := f
  exact ⟨q, H0, o, a, b, c, e, r.ci, k.ci⟩
theorem RepE.ci {env : Env} {σ : L2.St} (r : RepE C1 K H al env σ) (n : env.all nxO = true) : RepE C2 K H al env σ where
  len := r.len
  at_ := fun i d e nx => let ⟨v, h1, h2⟩ := r.at_ i d e nx; ⟨v, h1, Rep.ci d h2⟩
  ex := fun i c fs e => by
    have := List.all_eq_true.mp n _ (List.mem_of_getElem? e)
    cases this
/-- nothing holds an exception -/
theorem RepE.nox {C : CI} {env : Env} {σ : L2.St} (x : C.xa = none) (r : RepE C K H al env σ) : env.all nxO = true := by
  rw [List.all_eq_true]
  intro o ho
  cases o with
  | none => rfl
  | some d =>
    cases d with
    | exc c fs =>
      obtain ⟨i, hi, e⟩ := List.getElem_of_mem ho
      obtain ⟨_, v, _, a, dx, vs, e1, _⟩ := r.ex i c fs (by rw [List.getElem?_eq_getElem hi, e])
      rw [x] at e1
      cases e1
    | _ => rfl
end
/-- the clauses' suites as the evaluator reads them -/
def tsOf (C : CI) (K : Frag) (i : Option Nat) (m : Env → AH → O) (a : Addr) (cls : Value) (d : Option Addr) : TS := fun D σ H => ∃ n dx, cls = C.cls n ∧ d = some dx ∧ sT (C.at a n dx i) K W0 m D σ H
def clsL (C : CI) (K : Frag) (r : Ev) : List Hn → List Cl1
  | [] => []
  | .mk c i a :: hs => (C.cls c, i, tsOf C K i (ssEv r a)) :: clsL C K r hs
section
variable {C : CI} {X : Cx} {W : WX} {anc : List (List Nat)} {r : Ev} {m : Env → AH → O}
theorem lift_hn (xs : Xs C X.K anc) (x0 : C.xa = none) {al : AL} {H : Hp} {D : Ends} {x : Xc} {env : Env} {h : AH} : ∀ {hs : List Hn}, PostO C X.K al H (hnEv anc r x env h hs) D W →
    ∀ al' H' σ' dx vs, Ext al H al' H' → RepH C X.K H' al' h → RepE C X.K H' al' env σ' → XAt C X.K H' al' x dx vs → wGen X.K W D (clsL C X.K r hs) (C.cls x.c) (some dx) σ' H'
  | [], p, al', H', σ', dx, vs, ex, rh, re, xa => p al' H' σ' dx vs ex rh re xa
  | .mk c i a :: hs, p, al', H', σ', dx, vs, ex, rh, re, xa => by
    unfold hnEv at p
    split at p
    · exact p.elim
    rename_i hc
    have hc0 : c ≠ 0 := fun z => hc (.inl z)
    have hx0 : x.c ≠ 0 := fun z => hc (.inr (.inl z))
    have hcl : c < anc.length := by
      rcases Nat.lt_or_ge c anc.length with z | z
      · exact z
      · exact absurd (.inr (.inr z)) hc
    split at p
    · rename_i l el
      obtain ⟨D', eD, _, _, _, _, _, hx⟩ := xs.own x.c l el hx0
      have hxc := hx c hcl hc0
      rw [← eD] at hxc
      refine ⟨l.contains c, hxc, fun hb a' na => ?_, fun hb => ?_⟩
      · rw [if_pos hb] at p
        have p := PostO.start ex p
        refine ⟨x.c, dx, rfl, rfl, al', inNE i x env, h, rh.ci, ?_, ?_⟩
        · have re' : RepE (C.at a' x.c dx i) X.K H' al' env σ' := re.ci (re.nox x0)
          cases i with
          | none => exact re'
          | some i =>
            exact re'.setX i rfl ⟨a', dx, vs, rfl, rfl, xa.dict, xa.notAt, xa.len, RepL.ci _ xa.rep⟩
        · have back : ∀ {env2 : Env} {al2 : AL} {H2 : Hp} {σ2 : L2.St}, (goN i env2).all nxO = true → RepE (C.at a' x.c dx i) X.K H2 al2 env2 σ2 → RepE C X.K H2 al2 (goN i env2) (match i with | none => σ2 | some i => σ2.set i none) := by
            intro env2 al2 H2 σ2 hn re2
            cases i with
            | none => exact re2.ci hn
            | some i => exact (re2.unset i).ci hn
          cases es : ssEv r a (inNE i x env) h with
          | nx env2 h2 =>
            rw [es] at p
            simp only [sufO] at p
            split at p
            · rename_i hn
              intro al2 H2 σ2 e2 rh2 re2
              have := p al2 H2 _ e2 rh2.ci (back hn re2)
              cases i <;> exact this
            · exact p.elim
          | bk env2 h2 =>
            rw [es] at p
            simp only [sufO] at p
            split at p
            · rename_i hn
              intro al2 H2 σ2 e2 rh2 re2
              have := p al2 H2 _ e2 rh2.ci (back hn re2)
              cases i <;> exact this
            · exact p.elim
          | ct env2 h2 =>
            rw [es] at p
            simp only [sufO] at p
            split at p
            · rename_i hn
              intro al2 H2 σ2 e2 rh2 re2
              have := p al2 H2 _ e2 rh2.ci (back hn re2)
              cases i <;> exact this
            · exact p.elim
          | rt d f h2 =>
            rw [es] at p
            intro al2 H2 v e2 rh2 rv
            have := p al2 H2 v e2 rh2.ci ⟨Rep.ci _ rv.1, fun z => (rv.2 z).ci⟩
            cases i <;> exact this
          | exc y env2 h2 => rw [es] at p; exact p.elim
          | bad => rw [es] at p; exact p.elim
      · rw [if_neg (by rw [hb]; exact Bool.false_ne_true)] at p
        exact lift_hn xs x0 (hs := hs) p al' H' σ' dx vs ex rh re xa
    · exact p.elim
abbrev tryM (anc : List (List Nat)) (r : Ev) (m : Env → AH → O) (hs : List Hn) (env : Env) (h : AH) : O := match m env h with
  | .exc x env h => hnEv anc r x env h hs
  | o => o
theorem lift_try (xs : Xs C X.K anc) (x0 : C.xa = none) {hs : List Hn} {D : Ends} {σ : L2.St} {H : Hp} (q : sT C X.K W (tryM anc r m hs) D σ H) : sT C X.K (wGen X.K W D (clsL C X.K r hs)) m D σ H := by
  obtain ⟨al, env, h, rh, re, p⟩ := q
  refine ⟨al, env, h, rh, re, ?_⟩
  unfold tryM at p
  cases e : m env h with
  | exc x env' h' =>
    rw [e] at p
    exact fun al' H' σ' dx vs ex rh' re' xa => lift_hn xs x0 p al' H' σ' dx vs ex rh' re' xa
  | _ => rw [e] at p; exact p
theorem sp_try {body : List Stmt} {h₀ : ExceptHandler} {hds : List ExceptHandler} {hs : List Hn} {pos : Pos} (xs : Xs C X.K anc) (x0 : C.xa = none) (hst : X.stack = X.env :: X.outer) (hf : X.env.frame = some X.env.locals) (hN : X.N.Nodup) (tk : Takes X W)
    (hb : ∀ (W : WX) (pn : List (Addr × Obj)) (xe : Value → Shared → Prop), Takes (X.tr pn xe) W → PassesOwn (model X.prog X.w) X.A X.env xe → PSs (X.tr pn xe) body (sT C X.K W m))
    (hh : HdsG X (h₀ :: hds) (clsL C X.K r hs)) : PS X (.Try body (h₀ :: hds) [] [] pos) (sT C X.K W (tryM anc r m hs)) :=
  (ps_try_gen hst hf hN tk hb hh).imp fun D σ H q => lift_try xs x0 q
end
end Rw
end

section
set_option Elab.async false
set_option linter.all false
set_option maxRecDepth 100000
set_option maxHeartbeats 4000000
/-! RfV: tuples read backwards: t[::-1], t[i::-1]. -/
namespace Rw
open PySem PySem.Spec PyProof.Rows L2
section
open HT PySem.Calls
variable {prog : Program} {w : World} {A : Around} {E : Value → Shared → Prop} {s : Shared}
/-- how many stand from place lo down to the first -/
def dnLen (n : Nat) : Option Int → Nat
  | none => n
  | some i => min (i.toNat + 1) n
theorem adjust_rev (lo : Option Int) (h0 : ∀ i, lo = some i → 0 ≤ i) (n : Nat) : Builtin.Slice.sliceAdjust lo none (-1) (n : Int) = ((dnLen n lo : Int) - 1, -1) := by
  unfold Builtin.Slice.sliceAdjust
  have h1 : ((-1 : Int) < 0) := by omega
  simp only [h1, if_true]
  cases lo with
  | none => rfl
  | some i =>
    have h2 := h0 i rfl
    have h3 : ¬ i < 0 := by omega
    simp only [dnLen, h3, if_false]
    refine Prod.ext ?_ rfl
    show min i ((n : Int) - 1) = ((min (i.toNat + 1) n : Nat) : Int) - 1
    omega
theorem places_rev (k : Nat) : Builtin.Slice.slicePlaces ((k : Int) - 1) (-1) (-1) = k := by
  unfold Builtin.Slice.slicePlaces
  rw [if_neg (by omega)]
  split
  · have : ((k : Int) - 1 - -1 - 1) / (- -1) = (k : Int) - 1 := by
      rw [show (- -1 : Int) = 1 from rfl, Int.ediv_one]; omega
    rw [this]; omega
  · omega
theorem sliceApplied_rev {sl : Addr} {vl vu vs : Value} {lo : Option Int} {n : Nat} {Q : Int × Int × Nat → Shared → Prop} (hs : s.heap.IsSliceOf sl vl vu vs) (pl : IsPart vl lo) (pu : IsPart vu none) (ps : IsPart vs (some (-1))) (h0 : ∀ i, lo = some i → 0 ≤ i)
    (h : Q ((dnLen n lo : Int) - 1, -1, dnLen n lo) s) : wpAny (model prog w) A (Builtin.Slice.sliceApplied (.ref sl) (pure (n : Int))) Q E s := by
  obtain ⟨os, hos, hcs, hds⟩ := id hs
  unfold Builtin.Slice.sliceApplied Builtin.Slice.sliceFields
  refine wpAny_bind (wpAny_bind (wpAny_field hos hds (x := vl) rfl (wpAny_bind (wpAny_field hos hds (x := vu) rfl (wpAny_bind (wpAny_field hos hds (x := vs) rfl (wpAny_pure ?_)))))))
  refine wpAny_bind (slicePart_ ps ?_)
  show wpAny _ _ (if ((-1 : Int) == 0) = true then _ else _) _ _ s
  rw [if_neg (by decide)]
  refine wpAny_bind (slicePart_ pl (wpAny_bind (slicePart_ pu (wpAny_bind (wpAny_pure ?_)))))
  show wpAny _ _ (match Builtin.Slice.sliceAdjust lo none (-1) (n : Int) with | (lo, hi) => pure (lo, (-1 : Int), Builtin.Slice.slicePlaces lo hi (-1))) _ _ s
  rw [adjust_rev lo h0 n]
  show wpAny _ _ (pure ((dnLen n lo : Int) - 1, (-1 : Int), Builtin.Slice.slicePlaces ((dnLen n lo : Int) - 1) (-1) (-1))) _ _ s
  rw [places_rev]
  exact wpAny_pure h
theorem pick_rev {α : Type} (xs : List α) : ∀ (k : Nat), k ≤ xs.length → ((List.range k).filterMap fun (m : Nat) => xs[((k : Int) - 1 + (m : Int) * -1).toNat]?) = (xs.take k).reverse
  | 0, _ => rfl
  | k + 1, hk => by
    have ih := pick_rev xs k (by omega)
    have hx : xs[k]? = some xs[k] := List.getElem?_eq_getElem (by omega)
    rw [List.range_succ_eq_map, List.filterMap_cons, List.filterMap_map]
    have e0 : (((k + 1 : Nat) : Int) - 1 + ((0 : Nat) : Int) * -1).toNat = k := by omega
    simp only [e0, hx]
    have e1 : ((fun (m : Nat) => xs[(((k + 1 : Nat) : Int) - 1 + (m : Int) * -1).toNat]?) ∘ Nat.succ) = fun (m : Nat) => xs[((k : Int) - 1 + (m : Int) * -1).toNat]? := by
      funext m
      show xs[(((k + 1 : Nat) : Int) - 1 + ((m + 1 : Nat) : Int) * -1).toNat]? = _
      congr 2
      omega
    rw [e1, ih, ← List.take_append_getElem (show k < xs.length by omega), List.reverse_append]
    rfl
theorem getItem_tuple_rev {t sl : Addr} {items : Array Value} {vl vu vs : Value} {lo : Option Int} {Q : Value → Shared → Prop} (ht : IsTup s.heap t items) (hs : s.heap.IsSliceOf sl vl vu vs) (pl : IsPart vl lo) (pu : IsPart vu none) (ps : IsPart vs (some (-1))) (h0 : ∀ i, lo = some i → 0 ≤ i)
    (h : Q (.ref s.heap.objs.size) { s with heap := s.heap.push { cls := .type "tuple", data := .seq (items.toList.take (dnLen items.size lo)).reverse.toArray } })
    (hsz : items.size ≤ sizeLine) : wpAny (model prog w) A (getItem (.ref t) (.ref sl)) Q E s := by
  have hk : dnLen items.size lo ≤ items.size := by
    cases lo with
    | none => exact Nat.le_refl _
    | some i => exact Nat.min_le_right _ _
  have htake : sizeOk (.seq (items.toList.take (dnLen items.size lo)).reverse.toArray) := by
    show (items.toList.take (dnLen items.size lo)).reverse.toArray.size ≤ sizeLine
    rw [List.size_toArray, List.length_reverse, List.length_take, Array.length_toList]
    omega
  obtain ⟨os, hos, hcs, hds⟩ := id hs
  have hTs : s.TypeIs (.ref sl) "slice" := ⟨os, hos, hcs⟩
  unfold getItem
  try with_reducible refine wpAny_holding ?_
  first | refine wpAny_bind (wpAny_pure ?_) | skip
  refine wpAny_bind (wpAny_sequenceKey ht.typeIs (by decide) ?_)
  refine wpAny_bind (wpAny_callSpecial?_slot (name := Str.ofString "__getitem__") ht.typeIs PyProof.Rows.slot_tuple_getitem
    (wpAny_call_entry PyProof.Rows.slot_tuple_getitem ht.typeIs entry_tuple_getitem ?_ (args_tuple_getitem _ _)))
  show wpAny _ _ (Builtin.Tuple.tupleItemsOf (.ref t) >>= _) _ _ s
  refine wpAny_bind (tupleItemsOf_ ht ?_)
  refine wpAny_bind (wpAny_typeOf hTs ?_)
  rw [if_pos (by decide)]
  refine wpAny_bind (sliceApplied_rev hs pl pu ps h0 ?_)
  have hno : ¬ ((((dnLen items.size lo : Int) - 1) == 0 && (-1 : Int) == 1 && (dnLen items.size lo) == items.size) = true) := by
    intro q
    rw [Bool.and_eq_true, Bool.and_eq_true] at q
    exact absurd (eq_of_beq q.1.2) (by decide)
  show wpAny _ _ (if (((dnLen items.size lo : Int) - 1) == 0 && (-1 : Int) == 1 && (dnLen items.size lo) == items.size) = true then _ else _) _ _ s
  have hp : ((List.range (dnLen items.size lo)).filterMap fun (m : Nat) => items[((dnLen items.size lo : Int) - 1 + (m : Int) * -1).toNat]?).toArray = (items.toList.take (dnLen items.size lo)).reverse.toArray := by
    rw [← pick_rev items.toList _ (by rw [Array.length_toList]; exact hk)]
    congr 2
    funext m
    rw [Array.getElem?_toList]
  rw [if_neg hno, hp]
  first
    | exact wpAny_bind (m := Builtin.Tuple.tupleExact _) (wpAny_newObj_type (wpAny_pure ⟨_, rfl, wpAny_pure h⟩) htake)
    | exact wpAny_bind (m := Builtin.Tuple.tupleExact _) (wpAny_newObj_type (wpAny_bind (wpAny_pure (wpAny_pure ⟨_, rfl, wpAny_pure h⟩))) htake)
    | exact wpAny_bind (wpAny_bind (m := Builtin.Tuple.tupleExact _) (wpAny_newObj_type (wpAny_pure (wpAny_pure ⟨_, rfl, wpAny_pure h⟩)) htake))
    | exact wpAny_bind (wpAny_bind (m := Builtin.Tuple.tupleExact _) (wpAny_newObj_type (wpAny_pure ⟨_, rfl, wpAny_pure h⟩) htake))
end
section
variable {X : Cx} {W : WX} {pos : Pos}
/-- a[::-1], of a tuple or a list -/
def tRevA (K : PySem.W.Frag) (te : TE) : TE := fun σ H Q => te σ H fun x H1 => ∃ a xs, x = .ref a ∧ ((SqL K H1 a xs ∧ ∀ p, H1 p = none → Q (.ref p) (upd H1 p (.lst xs.reverse))) ∨ (SqT K H1 a xs ∧ ∀ p, H1 p = none → Q (.ref p) (upd H1 p (.tup xs.reverse))))
theorem pe_revA {e : Expr} {te : TE} {k : Nat} {p1 p2 p3 pos : Pos} (he : PE X e te) : PE X (.Subscript e (.Slice none none (some (.UnaryOp .USub (.Constant (.int 1) k p1) p2)) p3) pos) (tRevA X.K te) := by
  refine ⟨fun pins s σ H Q I h => ?_⟩
  refine Subscript_ (thn (he.run pins s σ H _ I h) fun v s1 ⟨x, H1, I1, r1, q1⟩ => ?_)
  obtain ⟨a, xs, ex, q⟩ := q1
  subst ex
  cases r1
  have hst : PO X (some (.UnaryOp .USub (.Constant (.int 1) k p1) p2)) (tPart (tUn (rU fun i => .int (-i)) (tC (.int 1)))) := po_some (pe_un un_neg pe_int)
  refine wpAny_Slice (thn (po_none.run pins s1 σ H1 (fun o H2 => o = none ∧ H2 = H1) I1 ⟨rfl, rfl⟩) fun vl s2 ⟨l, H2, I2, pl, el, e2⟩ => ?_)
  subst el e2
  refine thn (po_none.run pins s2 σ H2 (fun o H3 => o = none ∧ H3 = H2) I2 ⟨rfl, rfl⟩) fun vu s3 ⟨u, H3, I3, pu, eu, e3⟩ => ?_
  subst eu e3
  refine thn (hst.run pins s3 σ H3 (fun o H4 => o = some (-1) ∧ H4 = H3) I3 ⟨1, rfl, -1, rfl, rfl, rfl⟩) fun vs s4 ⟨o, H4, I4, ps, eo, e4⟩ => ?_
  subst eo e4
  have I5 : Inv X pins σ H4 { s4 with heap := s4.heap.push { cls := .type "slice", data := .fields #[vl, vu, vs] } } := I4.kept (t' := s4.toks) fun b ob q => Heap.get?_push_of_some _ q
  show wpAny (model X.prog X.w) X.A (subscriptTail e (.Slice none none (some (.UnaryOp .USub (.Constant (.int 1) k p1) p2)) p3) (.ref a) (.ref s4.heap.objs.size)) (EP X pins σ Q) X.xe { s4 with heap := s4.heap.push { cls := .type "slice", data := .fields #[vl, vu, vs] } }
  rcases q with ⟨hx, q⟩ | ⟨hx, q⟩
  · obtain ⟨its, r, ht, hz⟩ := I5.list hx
    have hlen := r.length
    refine tail_any (ops := [.ref a, .ref s4.heap.objs.size]) ht.isList.typeIs (PySem.slot_list_getitem.lookup) ?_ (by with_unfolding_all rfl)
    refine wpAny_getItem_list_slice ht.isList (Heap.IsSliceOf.new _ vl vu vs) pl pu ps (by decide) ?_ (by rw [List.size_toArray]; omega)
    rw [PySem.W.krv_pick]
    refine ⟨.ref _, _, I5.laid (t' := s4.toks) (o := .lst xs.reverse) (fun b ob q => Heap.get?_push_of_some _ q) (Nat.le_refl _) ?_, rfl, q _ (I5.hok.fresh (Nat.le_refl _))⟩
    exact ⟨by rw [List.length_reverse]; exact hz, _, 0, r.reverse, Heap.get?_push_size _ rfl⟩
  · obtain ⟨its, r, ht, hz⟩ := I5.tuple hx
    have hlen := r.length
    refine tail_any (ops := [.ref a, .ref s4.heap.objs.size]) ht.typeIs (PyProof.Rows.slot_tuple_getitem.lookup) ?_ (by with_unfolding_all rfl)
    refine getItem_tuple_rev ht (Heap.IsSliceOf.new _ vl vu vs) pl pu ps (fun i z => nomatch z) ?_ (by rw [List.size_toArray]; omega)
    have e1 : (its.toArray.toList.take (dnLen its.toArray.size none)).reverse = its.reverse := by simp [dnLen]
    rw [e1]
    refine ⟨.ref _, _, I5.laid (t' := s4.toks) (o := .tup xs.reverse) (fun b ob q => Heap.get?_push_of_some _ q) (Nat.le_refl _) ?_, rfl, q _ (I5.hok.fresh (Nat.le_refl _))⟩
    exact ⟨by rw [List.length_reverse]; exact hz, _, r.reverse, IsTup.new _ _⟩
/-- t[i::-1], of a tuple -/
def tRvf (K : PySem.W.Frag) (te ti : TE) : TE := fun σ H Q => te σ H fun x H1 => ti σ H1 fun y H2 => ∃ a xs i, x = .ref a ∧ y = .int i ∧ 0 ≤ i ∧ SqT K H2 a xs ∧ ∀ p, H2 p = none → Q (.ref p) (upd H2 p (.tup (xs.take (i.toNat + 1)).reverse))
theorem pe_rvf {e ei : Expr} {te ti : TE} {k : Nat} {p1 p2 p3 pos : Pos} (he : PE X e te) (hi : PE X ei ti) : PE X (.Subscript e (.Slice (some ei) none (some (.UnaryOp .USub (.Constant (.int 1) k p1) p2)) p3) pos) (tRvf X.K te ti) := by
  refine ⟨fun pins s σ H Q I h => ?_⟩
  refine Subscript_ (thn (he.run pins s σ H _ I h) fun v s1 ⟨x, H1, I1, r1, q1⟩ => ?_)
  have hst : PO X (some (.UnaryOp .USub (.Constant (.int 1) k p1) p2)) (tPart (tUn (rU fun i => .int (-i)) (tC (.int 1)))) := po_some (pe_un un_neg pe_int)
  refine wpAny_Slice (thn ((po_some hi).run pins s1 σ H1 (fun o H2 => ∃ i a xs, o = some i ∧ x = .ref a ∧ 0 ≤ i ∧ SqT X.K H2 a xs ∧ ∀ p, H2 p = none → Q (.ref p) (upd H2 p (.tup (xs.take (i.toNat + 1)).reverse))) I1 ?_) fun vl s2 ⟨l, H2, I2, pl, i, a, xs, el, ex, hi0, hx, q⟩ => ?_)
  · have : ti σ H1 (fun y H2 => ∃ i, y = .int i ∧ ∃ i' a xs, some i = some i' ∧ x = .ref a ∧ 0 ≤ i' ∧ SqT X.K H2 a xs ∧ ∀ p, H2 p = none → Q (.ref p) (upd H2 p (.tup (xs.take (i'.toNat + 1)).reverse))) := by
      have key : (fun (y : V) (H2 : Hp) => ∃ a xs i, x = .ref a ∧ y = .int i ∧ 0 ≤ i ∧ SqT X.K H2 a xs ∧ ∀ p, H2 p = none → Q (.ref p) (upd H2 p (.tup (xs.take (i.toNat + 1)).reverse))) = (fun y H2 => ∃ i, y = .int i ∧ ∃ i' a xs, some i = some i' ∧ x = .ref a ∧ 0 ≤ i' ∧ SqT X.K H2 a xs ∧ ∀ p, H2 p = none → Q (.ref p) (upd H2 p (.tup (xs.take (i'.toNat + 1)).reverse))) := by
        funext y H2
        refine propext ⟨fun ⟨a, xs, i, h1, h2, h3, h4, h5⟩ => ⟨i, h2, i, a, xs, rfl, h1, h3, h4, h5⟩, fun ⟨i, h2, i', a, xs, e, h1, h3, h4, h5⟩ => ?_⟩
        cases e
        exact ⟨a, xs, i, h1, h2, h3, h4, h5⟩
      rw [← key]
      exact q1
    exact this
  subst el
  refine thn (po_none.run pins s2 σ H2 (fun o H3 => o = none ∧ H3 = H2) I2 ⟨rfl, rfl⟩) fun vu s3 ⟨u, H3, I3, pu, eu, e3⟩ => ?_
  subst eu e3
  refine thn (hst.run pins s3 σ H3 (fun o H4 => o = some (-1) ∧ H4 = H3) I3 ⟨1, rfl, -1, rfl, rfl, rfl⟩) fun vs s4 ⟨o, H4, I4, ps, eo, e4⟩ => ?_
  subst eo e4
  have I5 : Inv X pins σ H4 { s4 with heap := s4.heap.push { cls := .type "slice", data := .fields #[vl, vu, vs] } } := I4.kept (t' := s4.toks) fun b ob q => Heap.get?_push_of_some _ q
  subst ex
  cases r1
  show wpAny (model X.prog X.w) X.A (subscriptTail e (.Slice (some ei) none (some (.UnaryOp .USub (.Constant (.int 1) k p1) p2)) p3) (.ref a) (.ref s4.heap.objs.size)) (EP X pins σ Q) X.xe { s4 with heap := s4.heap.push { cls := .type "slice", data := .fields #[vl, vu, vs] } }
  obtain ⟨its, r, ht, hz⟩ := I5.tuple hx
  have hlen := r.length
  refine tail_any (ops := [.ref a, .ref s4.heap.objs.size]) ht.typeIs (PyProof.Rows.slot_tuple_getitem.lookup) ?_ (by with_unfolding_all rfl)
  refine getItem_tuple_rev ht (Heap.IsSliceOf.new _ vl vu vs) pl pu ps (fun i' z => by cases z; exact hi0) ?_ (by rw [List.size_toArray]; omega)
  have e1 : (its.toArray.toList.take (dnLen its.toArray.size (some i))).reverse = (its.take (i.toNat + 1)).reverse := by
    simp only [dnLen, List.size_toArray]
    congr 1
    rw [List.take_eq_take_iff]
    omega
  rw [e1]
  refine ⟨.ref _, _, I5.laid (t' := s4.toks) (o := .tup (xs.take (i.toNat + 1)).reverse) (fun b ob q => Heap.get?_push_of_some _ q) (Nat.le_refl _) ?_, rfl, q _ (I5.hok.fresh (Nat.le_refl _))⟩
  exact ⟨by rw [List.length_reverse, List.length_take]; omega, _, (r.take (i.toNat + 1)).reverse, IsTup.new _ _⟩
end
end Rw
end

section
set_option Elab.async false
set_option linter.all false
set_option maxRecDepth 100000
set_option maxHeartbeats 4000000
/-! RfW: backwards, {k: v}, zip. -/
namespace Rw
open PySem PySem.Spec PyProof.Rows L2
section
variable {C : CI} {X : Cx} {W : WX} {a b : Expr} {ma mb : Env → AH → R DF} {pos : Pos}
theorem se_rev {k : Nat} {p1 p2 p3 : Pos} (ha : PE X a (tE C X.K W ma)) : PE X (.Subscript a (.Slice none none (some (.UnaryOp .USub (.Constant (.int 1) k p1) p2)) p3) pos) (tE C X.K W fun env h => (ma env h).bind fun x h1 => opt h1 (revEv h1 x.1)) := by
  refine (pe_revA ha).imp fun σ H Q h => (tG.bind (rl := rF C X.K) (f := fun _ x h1 => opt h1 (revEv h1 x.1)) h).imp fun v H1 q => ?_
  obtain ⟨al, env, h1, x, H0, rh, re, rx, p⟩ := q
  obtain ⟨d, e, p⟩ := p.opt
  unfold revEv at e
  split at e
  · rename_i xs ex
    cases e
    have r := rx.1
    rw [ex] at r
    obtain ⟨q', vs, rfl, hq, rl⟩ := r
    exact ⟨q', vs, rfl, .inr ⟨hq.sq, fun l hl => p.new rh hl (rep_tup rh hl rl.reverse) fun z => nomatch z⟩⟩
  · obtain ⟨xs, e1, rfl⟩ := Option.map_eq_some_iff.mp e
    obtain ⟨q', vs, rfl, hq, rl⟩ := litems_sq rh rx.1 e1
    exact ⟨q', vs, rfl, .inl ⟨hq, fun l hl => p.new rh hl (rep_lst rh hl rl.reverse) fun _ => rl.reverse⟩⟩
theorem se_rvf {k : Nat} {p1 p2 p3 : Pos} (ha : PE X a (tE C X.K W ma)) (hb : PE X b (tE C X.K W mb)) : PE X (.Subscript a (.Slice (some b) none (some (.UnaryOp .USub (.Constant (.int 1) k p1) p2)) p3) pos) (tE C X.K W fun env h => (ma env h).bind fun x h1 => (mb env h1).bind fun y h2 => opt h2 (rvfEv x.1 y.1)) := by
  refine (pe_rvf ha hb).imp fun σ H Q h => ?_
  obtain ⟨al, env, hh, rh, re, p⟩ := h
  refine ⟨al, env, hh, rh, re, (Post.bind (rl := rF C X.K) p).imp (fun v H1 q => ?_) fun _ _ _ q => q⟩
  obtain ⟨al1, h1, x, _, ex, rh1, rx, p1⟩ := q
  refine ⟨al1, env, h1, rh1, re.ext ex, (Post.bind (rl := rF C X.K) p1).imp (fun w H2 q => ?_) fun _ _ _ q => q⟩
  obtain ⟨al2, h2, y, _, ex2, rh2, ry, p2⟩ := q
  obtain ⟨d, e, p2⟩ := p2.opt
  unfold rvfEv at e
  split at e
  · rename_i xs i e1 e2
    split at e
    · rename_i h0
      cases e
      have r := rx.1
      rw [e1] at r
      have r := Rep.ext ex2.toExt0 _ r
      obtain ⟨q', vs, rfl, hq, rl⟩ := r
      have r2 := ry.1
      rw [e2] at r2
      exact ⟨q', vs, i, rfl, r2, h0, hq.sq, fun l hl => p2.new rh2 hl (rep_tup rh2 hl (rl.take _).reverse) fun z => nomatch z⟩
    · cases e
  · cases e
theorem se_dI1 (hk : PE X a (tE C X.K W ma)) (hv : PE X b (tE C X.K W mb)) :
    PE X (.Dict [some a] [b] pos) (tE C X.K W fun env h => (ma env h).nox.bind fun a h1 => (mb env h1).nox.bind fun b h2 => (match a.1 with | .int i => .ok (.dI [(i, b.1)], true) h2 | _ => .bad)) := by
  refine (pe_disp (pps_cons hk hv pps_nil) rfl rfl (by simp) (by simp)).imp fun σ H Q q => ?_
  obtain ⟨al, env, h, rh, re, p⟩ := q
  dsimp only at p
  cases ek : ma env h with
  | bad => rw [ek] at p; exact p.elim
  | exc x h1 => rw [ek] at p; exact p.elim
  | ok d h1 =>
    rw [ek] at p
    simp only [R.nox, R.bind] at p
    cases ee : mb env h1 with
    | bad => rw [ee] at p; exact p.elim
    | exc x h1 => rw [ee] at p; exact p.elim
    | ok d2 h2 =>
      rw [ee] at p
      simp only at p
      split at p
      · rename_i i ea
        intro D hD
        refine ⟨al.gd D, env, h, rh.guard hD, re.ext (Ext0.guard hD), ?_⟩
        rw [ek]
        intro al1 H1 x ex1 rh1 rx
        have hx : x = .int i := by
          have := rx.1
          rw [ea] at this
          exact this
        refine ⟨al1, env, h1, rh1, (re.ext (Ext0.guard hD)).ext ex1.toExt0, ?_⟩
        rw [ee]
        intro al2 H2 y ex2 rh2 ry
        have exx : Ext (al.gd D) (upd H D (.dK [])) al2 H2 := ex1.trans ex2
        have gD : D ∈ (al.gd D).g := List.mem_cons_self ..
        have eD : H2 D = some (.dK []) := exx.gk D _ gD upd_same ((rh.guard (o := .dK []) hD).dis D gD)
        have gD2 : D ∈ al2.g := by rw [exx.ge]; exact gD
        refine ⟨eD, [(.inl i, y)], by rw [hx]; rfl, by simp, ?_⟩
        exact fin_guard p rh hD ((ExtD.refl.then exx).put gD2) (rh2.gput gD2) (u := .dK (mergeK [] [(.inl i, y)])) upd_same ⟨y, [], rfl, Rep.ext (Ext0.gput gD2) _ ry.1, rfl⟩
      · exact p.elim
/-! ### zip -/
theorem sq_stays2 {K : PySem.W.Frag} {H : Hp} {al : AL} {h : AH} {d : D} {v : V} {xs : List D} (r : Rep C K H al d v) (im : imm d = true) (e : items h d = some xs) :
    ∃ p vs, v = .ref p ∧ RepL C K H al xs vs ∧ ((isTp d = false ∧ ∀ al' H', Ext0 al H al' H' → SqL K H' p vs) ∨ (isTp d = true ∧ ∀ al' H', Ext0 al H al' H' → SqT K H' p vs)) := by
  cases d with
  | tup ys =>
    cases e
    obtain ⟨p, vs, rfl, hp, rl⟩ := r
    exact ⟨p, vs, rfl, rl, .inr ⟨rfl, fun al' H' x => (hp.ext x.toExtW).sq⟩⟩
  | lst ys =>
    cases e
    obtain ⟨p, vs, rfl, ⟨hp, hn⟩, rl⟩ := r
    exact ⟨p, vs, rfl, rl, .inl ⟨rfl, fun al' H' x => .inl (.inl (x.keep _ _ hp hn))⟩⟩
  | ktp ys =>
    cases e
    obtain ⟨p, vs, rfl, hp, rl⟩ := r
    exact ⟨p, vs, rfl, rl, .inr ⟨rfl, fun al' H' x => .inr hp⟩⟩
  | scr ns =>
    cases e
    obtain ⟨p, rfl, hp⟩ := r
    exact ⟨p, _, rfl, RepL.ints ns, .inl ⟨rfl, fun al' H' x => (hp.ext x.toExtW).sq⟩⟩
  | ref n => cases im
  | _ => cases e
theorem zpL_get {xs ys : List D} {i : Nat} {d : D} (e : ((xs.zip ys).map fun p => D.tup [p.1, p.2])[i]? = some d) : ∃ x y, xs[i]? = some x ∧ ys[i]? = some y ∧ d = .tup [x, y] := by
  rw [List.getElem?_map] at e
  obtain ⟨p, e1, rfl⟩ := Option.map_eq_some_iff.mp e
  have := List.getElem?_zip_eq_some.mp e1
  exact ⟨p.1, p.2, this.1, this.2, rfl⟩
theorem itR_zp {K : PySem.W.Frag} {H : Hp} {al : AL} {p q : Addr} {vs ws : List V} {xs ys : List D} (rl : RepL C K H al xs vs) (rl2 : RepL C K H al ys ws) (st : ∀ al' H', Ext0 al H al' H' → SqL K H' p vs) (st2 : ∀ al' H', Ext0 al H al' H' → SqL K H' q ws) : ItR C K H al ((xs.zip ys).map fun p => .tup [p.1, p.2]) (Itz K p q) := by
  intro al' H' h' x rh
  refine ⟨fun i d e => ?_, vs, ws, st al' H' x, st2 al' H' x, ?_⟩
  · obtain ⟨y, z, e1, e2, rfl⟩ := zpL_get e
    obtain ⟨v, ev, rv⟩ := rl.get e1
    obtain ⟨w, ew, rw'⟩ := rl2.get e2
    refine ⟨⟨vs, ws, v, w, st al' H' x, st2 al' H' x, ev, ew⟩, fun u H'' yy => ?_⟩
    obtain ⟨T, v', w', rfl, hn, rfl, y1, y2⟩ := yy
    have := y1 vs (st al' _ x)
    rw [ev] at this
    cases this
    have := y2 ws (st2 al' _ x)
    rw [ew] at this
    cases this
    exact ⟨.inr ⟨T, _, hn, rfl⟩, rep_tup rh hn ⟨_, _, rfl, Rep.ext x _ rv, _, [], rfl, Rep.ext x _ rw', rfl⟩⟩
  · rw [List.length_map, List.length_zip, rl.length, rl2.length]
    omega
theorem itR_zpT {K : PySem.W.Frag} {H : Hp} {al : AL} {p q : Addr} {vs ws : List V} {xs ys : List D} (rl : RepL C K H al xs vs) (rl2 : RepL C K H al ys ws) (st : ∀ al' H', Ext0 al H al' H' → SqT K H' p vs) (st2 : ∀ al' H', Ext0 al H al' H' → SqT K H' q ws) : ItR C K H al ((xs.zip ys).map fun p => .tup [p.1, p.2]) (RZ.ItzT K p q) := by
  intro al' H' h' x rh
  refine ⟨fun i d e => ?_, vs, ws, st al' H' x, st2 al' H' x, ?_⟩
  · obtain ⟨y, z, e1, e2, rfl⟩ := zpL_get e
    obtain ⟨v, ev, rv⟩ := rl.get e1
    obtain ⟨w, ew, rw'⟩ := rl2.get e2
    refine ⟨⟨vs, ws, v, w, st al' H' x, st2 al' H' x, ev, ew⟩, fun u H'' yy => ?_⟩
    obtain ⟨T, v', w', rfl, hn, rfl, y1, y2⟩ := yy
    have := y1 vs (st al' _ x)
    rw [ev] at this
    cases this
    have := y2 ws (st2 al' _ x)
    rw [ew] at this
    cases this
    exact ⟨.inr ⟨T, _, hn, rfl⟩, rep_tup rh hn ⟨_, _, rfl, Rep.ext x _ rv, _, [], rfl, Rep.ext x _ rw', rfl⟩⟩
  · rw [List.length_map, List.length_zip, rl.length, rl2.length]
    omega
theorem si_zp {p tpos : Pos} {elts : List Expr} {kk : Nat} (hg : Gl X "zip") (hm : X.mg "zip" = none) (ha : PE X a (tE C X.K W ma)) (hb : PE X b (tE C X.K W mb)) (hs : noStar a = true) (hs2 : noStar b = true) :
    PI X (.Tuple elts kk tpos) (.Call (.Name "zip" p) [a, b] [] pos) (iT C X.K W fun env h => (ma env h).bind fun d h1 => (mb env h1).bind fun d2 h2 =>
      if imm d.1 && imm d2.1 && isTp d.1 == isTp d2.1 then opt h2 ((items h2 d.1).bind fun xs => (items h2 d2.1).map fun ys => (xs.zip ys).map fun p => .tup [p.1, p.2]) else .bad) := by
  refine (RZ.pi_zipA hg hm (pa_cons ha (pa_cons hb pa_nil (star1 hs2)) (star1 hs)) (star1 hs) (star_any (by simp [hs2]))).imp fun σ H Q h => ?_
  obtain ⟨al, env, hh, rh, re, p⟩ := h
  refine ⟨al, env, hh, rh, re, (Post.bind (rl := rF C X.K) p).imp (fun v H1 q => ?_) fun _ _ _ q => q⟩
  obtain ⟨al1, h1, x, _, ex, rh1, rx, p1⟩ := q
  refine ⟨al1, env, h1, rh1, re.ext ex, (Post.bind (rl := rF C X.K) p1).imp (fun w H2 q => ?_) fun _ _ _ q => q⟩
  obtain ⟨al2, h2, y, _, ex2, rh2, ry, p2⟩ := q
  split at p2
  · rename_i hc
    obtain ⟨zs, e, p2⟩ := p2.opt
    obtain ⟨xs, e1, e⟩ := Option.bind_eq_some_iff.mp e
    obtain ⟨ys, e2, rfl⟩ := Option.map_eq_some_iff.mp e
    simp only [Bool.and_eq_true, beq_iff_eq] at hc
    obtain ⟨⟨i1, i2⟩, hk⟩ := hc
    obtain ⟨q1, vs, rfl, rl, st⟩ := sq_stays2 (Rep.ext ex2.toExt0 _ rx.1) i1 e1
    obtain ⟨q2, ws, rfl, rl2, st2⟩ := sq_stays2 ry.1 i2 e2
    refine ⟨q1, q2, vs, ws, rfl, ?_⟩
    rcases st with ⟨k1, st⟩ | ⟨k1, st⟩
    · rcases st2 with ⟨k2, st2⟩ | ⟨k2, st2⟩
      · exact .inl ⟨st al2 H2 (Ext.refl _ _).toExt0, st2 al2 H2 (Ext.refl _ _).toExt0, p2.it rh2 (itR_zp rl rl2 st st2)⟩
      · rw [k1, k2] at hk; cases hk
    · rcases st2 with ⟨k2, st2⟩ | ⟨k2, st2⟩
      · rw [k1, k2] at hk; cases hk
      · exact .inr ⟨st al2 H2 (Ext.refl _ _).toExt0, st2 al2 H2 (Ext.refl _ _).toExt0, p2.it rh2 (itR_zpT rl rl2 st st2)⟩
  · exact p2.elim
end
end Rw
end

section
set_option Elab.async false
set_option linter.all false
set_option maxRecDepth 100000
set_option maxHeartbeats 4000000
/-! RfY: a, b = x, y. -/
namespace Rw
open PySem PySem.Spec PyProof.Rows L2
theorem R.bind_o {α β : Type} (r : R α) (f : α → AH → R β) (env : Env) (g : β → AH → O) : (r.bind f).o env g = r.o env fun a h => (f a h).o env g := by cases r <;> rfl
section
variable {C : CI} {X : Cx} {W : WX} {a b c : Expr} {pos : Pos} {ms : Env → AH → R (List D)}
/-- a display's items are stored -/
abbrev parM (ms : Env → AH → R (List D)) (asg : D → Env → AH → R Env) (env : Env) (h : AH) : O := ((ms env h).bind fun ds h1 => if ds.length ≤ LN then R.ok ((.tup ds, false) : DF) h1 else .bad).o env fun d h1 => (asg d.1 env h1).o env fun env h2 => .nx env h2
theorem sp_par {i j : Nat} {x y : Str} {px py pt : Pos} {kt k2 : Nat} {pt2 : Pos} {r : Ev} (hc : X.calm = true) (hN : X.N.Nodup) (hi : X.N[i]? = some x) (hj : X.N[j]? = some y) (hij : i ≠ j) (hx : X.env.scope.names.lookup x = some .local) (hy : X.env.scope.names.lookup y = some .local)
    (ha : PA X [a, b] (tA C X.K W ms)) (hw : swappedStores [.Tuple [.Name x px, .Name y py] kt pt] (.Tuple [a, b] k2 pt2) X.env = pure (some [x, y])) :
    PS X (.Assign [.Tuple [.Name x px, .Name y py] kt pt] (.Tuple [a, b] k2 pt2) pos) (sT C X.K W (parM ms (asgT r 4 (.tp [.nm i, .nm j])))) := by
  refine (ps_par hc hN hi hj hij hx hy ha hw).imp fun Dn σ H q => ?_
  obtain ⟨al, env, h, rh, re, p⟩ := q
  dsimp only [parM] at p
  rw [R.bind_o] at p
  refine ⟨al, env, h, rh, re, (PostO.o (rl := rL C X.K) re p).imp (fun vs H1 q => ?_) fun _ _ _ q => q⟩
  obtain ⟨al1, h1, ds, rh1, re1, ex, rd, p1⟩ := q
  have rd : RepL C X.K H1 al1 ds vs := rd
  have p1 := PostO.start ex p1
  split at p1
  · simp only [R.o] at p1
    match ds, vs, rd, p1 with
    | [d1, d2], _, rd, p1 =>
      obtain ⟨v, r1, rfl, rv, w, r2, rfl, rw', rfl⟩ := rd
      refine ⟨v, w, rfl, ?_⟩
      have e : asgT r 4 (.tp [.nm i, .nm j]) (.tup [d1, d2]) env h1 = (nmM i d1 env h1).bind fun e1 h2 => (nmM j d2 e1 h2).bind fun e2 h3 => .ok e2 h3 := rfl
      rw [e] at p1
      by_cases g1 : (i < env.length)
      · have e1 : nmM i d1 env h1 = .ok (env.set i (some d1)) h1 := if_pos g1
        rw [e1] at p1
        by_cases g2 : (j < (env.set i (some d1)).length)
        · have e2 : nmM j d2 (env.set i (some d1)) h1 = .ok ((env.set i (some d1)).set j (some d2)) h1 := if_pos g2
          simp only [R.bind, e2, R.o] at p1
          exact p1 al1 H1 _ (Ext.refl _ _) rh1 ((re1.set i rv).set j rw')
        · have e2 : nmM j d2 (env.set i (some d1)) h1 = .bad := if_neg g2
          simp only [R.bind, e2, R.o] at p1
          exact p1.elim
      · have e1 : nmM i d1 env h1 = .bad := if_neg g1
        rw [e1] at p1
        exact p1.elim
    | [], _, _, p1 => exact p1.elim
    | [_], _, _, p1 => exact p1.elim
    | _ :: _ :: _ :: _, _, _, p1 =>
      have e : ∀ (d1 d2 d3 : D) (ds : List D), asgT r 4 (.tp [.nm i, .nm j]) (.tup (d1 :: d2 :: d3 :: ds)) env h1 = .bad := fun d1 d2 d3 ds => by
        exact if_neg (t := asgL (asgT r 3) [.nm i, .nm j] (d1 :: d2 :: d3 :: ds) env h1) (show ¬ (d1 :: d2 :: d3 :: ds).length = 2 by simp)
      rw [e] at p1
      exact p1.elim
  · exact p1.elim
theorem sp_par3 {i j l : Nat} {x y z : Str} {px py pz pt : Pos} {kt k2 : Nat} {pt2 : Pos} {r : Ev} (hc : X.calm = true) (hN : X.N.Nodup) (hi : X.N[i]? = some x) (hj : X.N[j]? = some y) (hl : X.N[l]? = some z) (hij : i ≠ j) (hil : i ≠ l) (hjl : j ≠ l) (hx : X.env.scope.names.lookup x = some .local) (hy : X.env.scope.names.lookup y = some .local) (hz : X.env.scope.names.lookup z = some .local)
    (ha : PA X [a, b, c] (tA C X.K W ms)) (hw : swappedStores [.Tuple [.Name x px, .Name y py, .Name z pz] kt pt] (.Tuple [a, b, c] k2 pt2) X.env = pure (some [x, y, z])) :
    PS X (.Assign [.Tuple [.Name x px, .Name y py, .Name z pz] kt pt] (.Tuple [a, b, c] k2 pt2) pos) (sT C X.K W (parM ms (asgT r 4 (.tp [.nm i, .nm j, .nm l])))) := by
  refine (ps_par3 hc hN hi hj hl hij hil hjl hx hy hz ha hw).imp fun Dn σ H q => ?_
  obtain ⟨al, env, h, rh, re, p⟩ := q
  dsimp only [parM] at p
  rw [R.bind_o] at p
  refine ⟨al, env, h, rh, re, (PostO.o (rl := rL C X.K) re p).imp (fun vs H1 q => ?_) fun _ _ _ q => q⟩
  obtain ⟨al1, h1, ds, rh1, re1, ex, rd, p1⟩ := q
  have rd : RepL C X.K H1 al1 ds vs := rd
  have p1 := PostO.start ex p1
  split at p1
  · simp only [R.o] at p1
    match ds, vs, rd, p1 with
    | [d1, d2, d3], _, rd, p1 =>
      obtain ⟨v, r1, rfl, rv, w, r2, rfl, rw', u, r3, rfl, ru, rfl⟩ := rd
      refine ⟨v, w, u, rfl, ?_⟩
      have e : asgT r 4 (.tp [.nm i, .nm j, .nm l]) (.tup [d1, d2, d3]) env h1 = (nmM i d1 env h1).bind fun e1 h2 => (nmM j d2 e1 h2).bind fun e2 h3 => (nmM l d3 e2 h3).bind fun e3 h4 => .ok e3 h4 := rfl
      rw [e] at p1
      by_cases g1 : (i < env.length)
      · have e1 : nmM i d1 env h1 = .ok (env.set i (some d1)) h1 := if_pos g1
        rw [e1] at p1
        by_cases g2 : (j < (env.set i (some d1)).length)
        · have e2 : nmM j d2 (env.set i (some d1)) h1 = .ok ((env.set i (some d1)).set j (some d2)) h1 := if_pos g2
          by_cases g3 : (l < ((env.set i (some d1)).set j (some d2)).length)
          · have e3 : nmM l d3 ((env.set i (some d1)).set j (some d2)) h1 = .ok (((env.set i (some d1)).set j (some d2)).set l (some d3)) h1 := if_pos g3
            simp only [R.bind, e2, e3, R.o] at p1
            exact p1 al1 H1 _ (Ext.refl _ _) rh1 (((re1.set i rv).set j rw').set l ru)
          · have e3 : nmM l d3 ((env.set i (some d1)).set j (some d2)) h1 = .bad := if_neg g3
            simp only [R.bind, e2, e3, R.o] at p1
            exact p1.elim
        · have e2 : nmM j d2 (env.set i (some d1)) h1 = .bad := if_neg g2
          simp only [R.bind, e2, R.o] at p1
          exact p1.elim
      · have e1 : nmM i d1 env h1 = .bad := if_neg g1
        rw [e1] at p1
        exact p1.elim
    | [], _, _, p1 => exact p1.elim
    | [_], _, _, p1 => exact p1.elim
    | [_, _], _, _, p1 => exact p1.elim
    | _ :: _ :: _ :: _ :: _, _, _, p1 =>
      have e : ∀ (d1 d2 d3 d4 : D) (ds : List D), asgT r 4 (.tp [.nm i, .nm j, .nm l]) (.tup (d1 :: d2 :: d3 :: d4 :: ds)) env h1 = .bad := fun d1 d2 d3 d4 ds => by
        exact if_neg (t := asgL (asgT r 3) [.nm i, .nm j, .nm l] (d1 :: d2 :: d3 :: d4 :: ds) env h1) (show ¬ (d1 :: d2 :: d3 :: d4 :: ds).length = 3 by simp)
      rw [e] at p1
      exact p1.elim
  · exact p1.elim
end
end Rw
end

section
set_option Elab.async false
set_option linter.all false
set_option maxRecDepth 100000
set_option maxHeartbeats 4000000
/-! RfK: the IR against the text. -/
namespace Rw
open PySem PySem.Spec PyProof.Rows L2
/-- what is known of a text's block -/
structure Cc where
  N : List Str
  sc : Scope
  fc : List Str
  calm : Bool
  /-- statements may stand -/
  stm : Bool := true
  /-- the slot of the exception that a suite holds -/
  xi : Option Nat := none
/-- the names of the defs, of the constants -/
structure PN where
  fn : List Str
  gl : List Str
  /-- the classes, by number; the fields; the classes that are made with one argument -/
  cl : List Str := []
  fd : List Str := []
  mkl : List Nat := []
def nmOk (x : Str) : Bool := !(x == ("__debug__" : Str)) && !(x == ("__classdict__" : Str))
def visB (c : Cc) (i : Nat) (x : Str) : Bool := decide (c.N[i]? = some x) && ((match c.sc.names.lookup x with | some .local => true | some .cell => true | some .free => true | _ => false) && nmOk x)
def glB (c : Cc) (x : Str) : Bool := decide (c.sc.names.lookup x = some .globalImplicit)
structure Ck where
  e : Cc → E → Expr → Bool
  t : Cc → E → Expr → Bool
  s : Cc → S → Stmt → Bool
def ckL (f : E → Expr → Bool) : List E → List Expr → Bool
  | [], [] => true
  | e :: es, a :: as => f e a && ckL f es as
  | _, _ => false
def ckO (f : E → Expr → Bool) : Option E → Option Expr → Bool
  | none, none => true
  | some e, some a => f e a
  | _, _ => false
def ckC (d : D) (k : Const) : Bool := match d, k with
  | .int i, .int j => decide (i = j)
  | .bl b, .bool b' => b == b'
  | .non, .none => true
  | .str s, .str x => decide (x = ⟨s.toArray⟩)
  | _, _ => false
def isSet : Expr → Bool
  | .Set _ _ _ => true
  | _ => false
def isTup : Expr → Bool
  | .Tuple _ _ _ => true
  | _ => false
/-- a target -/
def ckT (r : Ck) (c : Cc) (vs : List Nat) : Nat → T → Expr → Bool
  | 0, _, _ => false
  | k + 1, t, a => match t with
    | .nm i => (match a with
      | .Name x _ => decide (c.N[i]? = some x) && (decide (i ∈ vs) && (match c.sc.names.lookup x with | some .local => true | some .cell => decide (x ∈ c.fc) | _ => false))
      | _ => false)
    | .tp ts => (match a with
      | .Tuple as _ _ => c.calm && (decide (ts.length = as.length) && (as.all noStar && (ts.zip as).all fun p => ckT r c vs k p.1 p.2))
      | _ => false)
    | .ix o i => (match a with
      | .Subscript x y _ => r.e c o x && (r.e c i y && plainIx y)
      | _ => false)
    | .fld _ _ => false
/-- what is walked -/
def ckI (r : Ck) (c : Cc) (i : I) (tg a : Expr) : Bool := match i with
  | .sq e => r.e c e a
  | .rg1 e => (match a with
    | .Call (.Name x _) [y] [] _ => decide (x = "range") && (glB c x && (r.e c e y && noStar y))
    | _ => false)
  | .rg2 e e2 => (match a with
    | .Call (.Name x _) [y, z] [] _ => decide (x = "range") && (glB c x && (r.e c e y && (r.e c e2 z && (noStar y && noStar z))))
    | _ => false)
  | .en e => (match a with
    | .Call (.Name x _) [y] [] _ => decide (x = "enumerate") && (glB c x && (r.e c e y && (noStar y && isTup tg)))
    | _ => false)
  | .zp e e2 => (match a with
    | .Call (.Name x _) [y, z] [] _ => decide (x = "zip") && (glB c x && (r.e c e y && (r.e c e2 z && (noStar y && (noStar z && isTup tg)))))
    | _ => false)
  | _ => false
def Cc.blk (c : Cc) (scope : Scope) : Cc := ⟨c.N, relS scope c.sc, (scope.names.filter fun p => p.2 == .cell).map (·.1), c.calm, false, c.xi⟩
def Cc.suite (c : Cc) (i : Option Nat) : Cc := { c with calm := false, xi := i }
def ownOf (N : List Str) (vs : List Nat) : List (Str × Nat) := vs.map fun v => ((N[v]?).getD "", v)
def ckLc (r : Ck) (c : Cc) (t : T) (vs : List Nat) (i : I) (cond : Option E) (e : E) (elt : Expr) (gs : List Comprehension) (scope : Scope) : Bool := match gs with
  | [⟨tg, iter, ifs, z⟩] => decide (z = 0) && (c.calm && (ckI r c i tg iter && (!isSet iter && (blkC c.N c.sc scope (ownOf c.N vs) && (ckT r (c.blk scope) vs 4 t tg && (r.e (c.blk scope) e elt && (match cond, ifs with
    | none, [] => true
    | some q, [x] => r.t (c.blk scope) q x
    | _, _ => false)))))))
  | _ => false
/-- an expression -/
def eCk (P : PN) (r : Ck) (c : Cc) (e : E) (a : Expr) : Bool := match e with
  | .v i => (match a with
    | .Name x _ => visB c i x && decide (c.xi ≠ some i)
    | _ => false)
  | .c d => (match a with
    | .Constant k _ _ => ckC d k
    | _ => false)
  | .gl g => (match a with
    | .Name x _ => glB c x && (decide (P.gl[g]? = some x) && nmOk x)
    | _ => false)
  | .tup es => (match a with
    | .Tuple as _ _ => ckL (r.e c) es as && as.all noStar
    | _ => false)
  | .lst es => (match a with
    | .List as _ => ckL (r.e c) es as && as.all noStar
    | _ => false)
  | .emT => (match a with
    | .Dict [] [] _ => true
    | _ => false)
  | .emI => (match a with
    | .Dict [] [] _ => true
    | _ => false)
  | .bin op x y => (match a with
    | .BinOp p o q _ => decide (o = opOf op) && (r.e c x p && r.e c y q)
    | _ => false)
  | .neg x => (match a with
    | .UnaryOp .USub p _ => r.e c x p
    | _ => false)
  | .not x => (match a with
    | .UnaryOp .Not p _ => r.e c x p
    | _ => false)
  | .cmp op x y => (match a with
    | .Compare p [o] [q] _ => decide (o = cmOf op) && (r.e c x p && (r.e c y q && !behindInMarks o q))
    | _ => false)
  | .chain op op' x y z => (match a with
    | .Compare p [o, o'] [q, w] _ => decide (o = cmOf op) && (decide (o' = cmOf op') && (r.e c x p && (r.e c y q && (r.e c z w && !behindInMarks o' w))))
    | _ => false)
  | .and es => (match a with
    | .BoolOp .And as _ => ckL (r.e c) es as
    | _ => false)
  | .or es => (match a with
    | .BoolOp .Or as _ => ckL (r.e c) es as
    | _ => false)
  | .ife q x y => (match a with
    | .IfExp p u w _ => r.t c q p && (r.e c x u && r.e c y w)
    | _ => false)
  | .ix x i => (match a with
    | .Subscript p q _ => r.e c x p && (r.e c i q && plainIx q)
    | _ => false)
  | .sl x lo hi => (match a with
    | .Subscript p (.Slice l u none _) _ => r.e c x p && (ckO (r.e c) lo l && ckO (r.e c) hi u)
    | _ => false)
  | .rev x => (match a with
    | .Subscript p (.Slice none none (some (.UnaryOp .USub (.Constant (.int i) _ _) _)) _) _ => decide (i = 1) && r.e c x p
    | _ => false)
  | .rvf x i => (match a with
    | .Subscript p (.Slice (some w) none (some (.UnaryOp .USub (.Constant (.int j) _ _) _)) _) _ => decide (j = 1) && (r.e c x p && r.e c i w)
    | _ => false)
  | .dI1 k e => (match a with
    | .Dict [some p] [q] _ => r.e c k p && r.e c e q
    | _ => false)
  | .call f es => (match a with
    | .Call (.Name x _) as [] _ => c.calm && (glB c x && (decide (P.fn[f]? = some x) && (ckL (r.e c) es as && (as.all noStar && nmOk x))))
    | _ => false)
  | .bi f es => (match a with
    | .Call (.Name x _) (y :: as) [] _ => decide (x = biName f) && (glB c x && (biOk c.calm f && (ckL (r.e c) es (y :: as) && (y :: as).all noStar)))
    | _ => false)
  | .isi x cl => (match a with
    | .Call (.Name f _) [y, .Name z _] [] _ => decide (f = "isinstance") && (decide (z = clStr cl) && (glB c f && (glB c z && (r.e c x y && noStar y))))
    | _ => false)
  | .me m o es => (match a with
    | .Call (.Attribute x nm apos) as [] pos => decide (nm = meName m) && (decide (as.length = meArgs m) && (r.e c o x && (ckL (r.e c) es as && (noCall x && (as.all noStar && ((apos.endLine == pos.line) && (match m with | .join => false | _ => true)))))))
    | _ => false)
  | .lrg t i => (match a with
    | .Call (.Name x _) [.Call (.Name y _) as [] _] [] _ => c.calm && (decide (x = if t then ("tuple" : Str) else ("list" : Str)) && (decide (y = "range") && (glB c x && (glB c y && (match i, as with
      | .rg1 e, [z] => r.e c e z && noStar z
      | .rg2 e e2, [z, w] => r.e c e z && (r.e c e2 w && (noStar z && noStar w))
      | _, _ => false)))))
    | _ => false)
  | .lc t vs i cond e => (match a with
    | .ListComp elt gs scope _ => ckLc r c t vs i cond e elt gs scope
    | _ => false)
  | .reg e => r.e c e a
  | .xf i k => (match a with
    | .Attribute (.Name x p) f _ => visB c i x && (decide (P.fd[k]? = some f) && (!c.calm && noCall (.Name x p)))
    | _ => false)
  | .xi i m => (match a with
    | .Call (.Name f _) [.Name x _, .Name y _] [] _ => decide (f = "isinstance") && (glB c f && (!c.calm && (visB c i x && (glB c y && (nmOk y && decide (P.cl[m]? = some y))))))
    | _ => false)
  | _ => false
/-- a test -/
def tCk (P : PN) (r : Ck) (c : Cc) (e : E) (a : Expr) : Bool := if plainTest a then eCk P r c e a else match e with
  | .cmp _ _ _ => eCk P r c e a
  | .chain _ _ _ _ _ => eCk P r c e a
  | .and es => (match a with
    | .BoolOp .And as _ => ckL (r.t c) es as
    | _ => false)
  | .or es => (match a with
    | .BoolOp .Or as _ => ckL (r.t c) es as
    | _ => false)
  | .not x => (match a with
    | .UnaryOp .Not p _ => r.t c x p
    | _ => false)
  | .ife q x y => (match a with
    | .IfExp p u w _ => r.t c q p && (r.t c x u && r.t c y w)
    | _ => false)
  | _ => false
def ckSs (f : S → Stmt → Bool) : List S → List Stmt → Bool
  | [], [] => true
  | .fz _ :: ss, sts => ckSs f ss sts
  | s :: ss, st :: sts => f s st && ckSs f ss sts
  | _, _ => false
/-- [..], or what is registered of it -/
def unReg : E → E
  | .reg e => e
  | e => e
def isTupE : E → Bool
  | .tup _ => true
  | _ => false
/-- except clauses -/
def ckHs (P : PN) (c : Cc) (f : Option Nat → List S → List Stmt → Bool) : List Hn → List ExceptHandler → Bool
  | [], [] => true
  | .mk n i a :: hs, .ExceptHandler (some (.Name x _)) nm (b :: su) _ :: hds => decide (n ≠ 0) && (glB c x && (nmOk x && (decide (P.cl[n]? = some x) && ((match i, nm with
      | none, none => true
      | some i, some y => decide (c.N[i]? = some y) && decide (c.sc.names.lookup y = some .local)
      | _, _ => false) && (f i a (b :: su) && ckHs P c f hs hds)))))
  | _, _ => false
/-- a statement -/
def sCk (P : PN) (r : Ck) (c : Cc) (s : S) (st : Stmt) : Bool := match s with
  | .asg t e => (match st with
    | .Assign [tg] v pos => (asgOk c.sc v tg && (r.e c e v && ckT r c (List.range c.N.length) 4 t tg)) ||
        (match t, tg, v, unReg e with
          | .nm i, .Name y py, .ListComp elt gs scope p2, .lc t' vs it cond el => decide (c.N[i]? = some y) && (decide (c.sc.names.lookup y = some .local) && (swOk c.sc y py p2 scope && ckLc r c t' vs it cond el elt gs scope))
          | .tp [.nm i, .nm j], .Tuple [.Name x px, .Name y py] _ _, .Tuple [a, b] _ _, .tup es => isTupE e && (c.calm && (decide (c.N[i]? = some x) && (decide (c.N[j]? = some y) && (decide (i ≠ j) && (decide (c.sc.names.lookup x = some .local) && (decide (c.sc.names.lookup y = some .local) && (decide (swP c.sc [.Name x px, .Name y py] [a, b] = some (some [x, y])) && (ckL (r.e c) es [a, b] && [a, b].all noStar))))))))
          | .tp [.nm i, .nm j, .nm l], .Tuple [.Name x px, .Name y py, .Name z pz] _ _, .Tuple [a, b, d] _ _, .tup es => isTupE e && (c.calm && (decide (c.N[i]? = some x) && (decide (c.N[j]? = some y) && (decide (c.N[l]? = some z) && (decide (i ≠ j ∧ i ≠ l ∧ j ≠ l) && (decide (c.sc.names.lookup x = some .local) && (decide (c.sc.names.lookup y = some .local) && (decide (c.sc.names.lookup z = some .local) && (decide (swP c.sc [.Name x px, .Name y py, .Name z pz] [a, b, d] = some (some [x, y, z])) && (ckL (r.e c) es [a, b, d] && [a, b, d].all noStar))))))))))
          | _, _, _, _ => false)
    | _ => false)
  | .ex e => (match st with
    | .Expr v _ => noComp v && r.e c e v
    | _ => false)
  | .ife q a b => (match st with
    | .If x u w _ => r.t c q x && (ckSs (r.s c) a u && ckSs (r.s c) b w)
    | _ => false)
  | .for t i b => (match st with
    | .For tg iter body [] _ => c.calm && (ckI r c i tg iter && (!isSet iter && (ckT r c (List.range c.N.length) 4 t tg && ckSs (r.s c) b body)))
    | _ => false)
  | .whl q b => (match st with
    | .While x body [] _ => r.t c q x && ckSs (r.s c) b body
    | _ => false)
  | .ret e => (match st with
    | .Return (some v) _ => r.e c e v
    | _ => false)
  | .retN => (match st with
    | .Return none _ => true
    | _ => false)
  | .no => true
  | .pass => (match st with
    | .Pass _ => true
    | _ => false)
  | .cont => (match st with
    | .Continue _ => true
    | _ => false)
  | .brk => (match st with
    | .Break _ => true
    | _ => false)
  | .rse n es => (match st, es with
    | .Raise (some (.Call (.Name x _) [a] [] _)) none _, [e] => c.stm && (c.calm && (glB c x && (nmOk x && (decide (P.cl[n]? = some x) && (P.mkl.contains n && (r.e c e a && noStar a))))))
    | _, _ => false)
  | .try b hs => (match st with
    | .Try body (h :: hds) [] [] _ => c.stm && (c.calm && (ckSs (r.s c) b body && ckHs P c (fun i => ckSs (r.s (c.suite i))) hs (h :: hds)))
    | _ => false)
  | _ => false
def ckN (P : PN) : Nat → Ck
  | 0 => ⟨fun _ _ _ => false, fun _ _ _ => false, fun _ _ _ => false⟩
  | n + 1 => ⟨eCk P (ckN P n), tCk P (ckN P n), sCk P (ckN P n)⟩

/-! ### what holds of a block's context -/
/-- the built-ins' names that may stand -/
def bltNames : List Str := ["len", "all", "any", "sum", "abs", "int", "str", "tuple", "list", "min", "max", "sorted", "isinstance", "range", "enumerate", "bool", "ValueError", "zip"]
structure Ctx (P : PN) (C : CI) (W : WX) (c : Cc) (Kv : Kn) (X : Cx) : Prop where
  hN : X.N = c.N
  nd : X.N.Nodup
  sc : X.env.scope = c.sc
  kd : X.env.scope.kind = .function
  fc : ∀ x ∈ c.fc, X.fn x = true
  calm : c.calm = true → X.calm = true
  tk : Takes X W
  hu : X.A.units + 65 < cLine
  blt : ∀ x ∈ bltNames, X.mg x = none
  fns : ∀ (f : Nat) (x : Str), P.fn[f]? = some x → c.calm = true → ∃ k fa fd ps, FnOk X.prog X.w X.K X.mg X.base (L2.CX X.prog X.w) k fa fd ps (spF C X.K (Kv.call f)) ∧ Room k X.A ∧ X.mg x = some (.ref fa) ∧ PySem.W.keepIn X.K (.ref fa) = true ∧ Binds X.K fd ps []
  gls : ∀ (g : Nat) (x : Str) (d : D), P.gl[g]? = some x → Kv.g[g]? = some d → ∃ v u, X.mg x = some u ∧ RelV v u ∧ ∀ H al, Rep C X.K H al d v
  own : PassesOwn (model X.prog X.w) X.A X.env X.xe
  xs : Xs C X.K Kv.anc
  xi : C.xi = c.xi
  cl : ∀ n x, P.cl[n]? = some x → X.mg x = some (C.cls n) ∨ (X.mg x = none ∧ bootBuiltins x = some (C.cls n) ∧ x ≠ "__name__")
  cln : P.cl.length = Kv.anc.length
  fl : ∀ n l j k f, n ≠ 0 → Kv.fld[n]? = some l → l.findIdx? (· == k) = some j → P.fd[k]? = some f → (C.fld n)[j]? = some f ∧ (C.fld n).Nodup ∧ ∃ l', Kv.anc[n]? = some l'
  mkd : c.stm = true → c.calm = true → ∀ n x, P.cl[n]? = some x → P.mkl.contains n = true → MkN C X n x
  rm : c.stm = true → c.calm = true → Room 2 X.A
  xa0 : c.calm = true → C.xa = none
  ins : c.calm = false → InSuite C X
  stk : c.stm = true → c.calm = true → X.stack = X.env :: X.outer ∧ X.env.frame = some X.env.locals
section
variable {P : PN} {C : CI} {W : WX} {c : Cc} {Kv : Kn} {X : Cx}
theorem Ctx.gl (h : Ctx P C W c Kv X) {x : Str} (e : glB c x = true) : Gl X x := by
  have := of_decide_eq_true e
  show X.env.scope.names.lookup x = _
  rw [h.sc]; exact this
theorem Ctx.hu' (h : Ctx P C W c Kv X) : X.A.units + 64 < cLine := by have := h.hu; omega
theorem nmOk_d {x : Str} (h : nmOk x = true) : (x == ("__debug__" : Str)) = false ∧ (x == ("__classdict__" : Str)) = false := by
  unfold nmOk at h
  simpa using h
theorem blk_scope (scope : Scope) (cl : List (Str × Addr)) (Ca : Addr) (env : PySem.Env) : (compEnvC scope cl Ca env).scope = relS scope env.scope := rfl
theorem Ctx.blk (h : Ctx P C W c Kv X) (hc : c.calm = true) {scope : Scope} {own : List (Str × Nat)} (ok : BlkOk X.N X.env.scope scope own) (s : Shared) (H : Hp) (Ca : Addr) (cl : List (Str × Addr)) (fp : List Addr) :
    Ctx P C W0 (c.blk scope) Kv (X.blk s H scope (compEnvC scope cl Ca X.env) fp) where
  hN := h.hN
  nd := h.nd
  sc := by
    show relS scope X.env.scope = relS scope c.sc
    rw [h.sc]
  kd := ok.kind
  fc := fun x hx => by
    obtain ⟨p, hp, rfl⟩ := List.mem_map.mp hx
    obtain ⟨h1, h2⟩ := List.mem_filter.mp hp
    show (scope.names.lookup p.1 == some .cell) = true
    rw [ok.uniq p h1]
    have e : p.2 = .cell := by simpa using h2
    rw [e]
    rfl
  calm := h.calm
  tk := fun u s' x => by
    obtain ⟨_, _, _, _, _, _, _, _, _, _, _, _, _, _, _, _, w⟩ := x
    exact w.elim
  hu := h.hu
  blt := h.blt
  fns := fun f x e hc => h.fns f x e hc
  gls := h.gls
  own := PassesOwn.never
  xs := h.xs
  xi := h.xi
  cl := h.cl
  cln := h.cln
  fl := h.fl
  mkd := fun z => by cases z
  rm := fun z => by cases z
  xa0 := fun _ => h.xa0 hc
  ins := fun z => by
    have z' : c.calm = false := z
    rw [hc] at z'
    cases z'
  stk := fun z => by cases z
/-- a try's body -/
theorem Ctx.tr {W' : WX} (h : Ctx P C W c Kv X) {pn : List (Addr × Obj)} {xe : Value → Shared → Prop} (tk : Takes (X.tr pn xe) W') (own : PassesOwn (model X.prog X.w) X.A X.env xe) (hc : c.calm = true) : Ctx P C W' c Kv (X.tr pn xe) where
  hN := h.hN
  nd := h.nd
  sc := h.sc
  kd := h.kd
  fc := h.fc
  calm := h.calm
  tk := tk
  hu := h.hu
  blt := h.blt
  fns := h.fns
  gls := h.gls
  own := own
  xs := h.xs
  xi := h.xi
  cl := h.cl
  cln := h.cln
  fl := h.fl
  mkd := fun a b n x e1 e2 => ⟨(h.mkd a b n x e1 e2).of⟩
  rm := h.rm
  xa0 := h.xa0
  ins := fun z => by rw [hc] at z; cases z
  stk := h.stk
/-- an except clause's suite -/
theorem Ctx.suite (h : Ctx P C W c Kv X) (a : Addr) (oe : Obj) (n : Nat) (dx : Addr) (i : Option Nat) (pn : List (Addr × Obj)) (hz : Zc (C.cls n) (some dx) oe) (hf : ∃ vs, oe.data = .fields vs) : Ctx P (C.at a n dx i) W0 (c.suite i) Kv (X.suite a ((a, oe) :: pn)) where
  hN := h.hN
  nd := h.nd
  sc := h.sc
  kd := h.kd
  fc := h.fc
  calm := fun z => by cases z
  tk := fun u s' x => by
    obtain ⟨_, _, _, _, _, _, _, _, _, _, _, _, _, _, _, _, w⟩ := x
    exact w.elim
  hu := h.hu
  blt := h.blt
  fns := fun f x e hc => by cases hc
  gls := fun g x d e1 e2 => by
    obtain ⟨v, u, h1, h2, h3⟩ := h.gls g x d e1 e2
    exact ⟨v, u, h1, h2, fun H al => Rep.ci _ (h3 H al)⟩
  own := PassesOwn.never
  xs := ⟨h.xs.v0, h.xs.own⟩
  xi := rfl
  cl := h.cl
  cln := h.cln
  fl := h.fl
  mkd := fun _ z => by cases z
  rm := fun _ z => by cases z
  xa0 := fun z => by cases z
  ins := fun _ a' n' dx' e => by
    cases e
    exact ⟨X, oe, pn, rfl, hz, hf⟩
  stk := fun _ z => by cases z
theorem Ctx.names (h : Ctx P C W c Kv X) {n : Nat} {x : Str} (e : P.cl[n]? = some x) (g : glB c x = true) (hd : nmOk x = true) : Names X x (C.cls n) := ⟨h.gl g, (nmOk_d hd).1, h.cl n x e⟩
theorem set_of {e : Expr} {env : PySem.Env} (h : isSet e = false) : ∀ x, foldedSetIterable e env x = pure x := by
  intro x
  cases e <;> first | rfl | cases h
theorem bi_mem (f : BI) : biName f ∈ bltNames := by
  cases f <;> simp [biName, bltNames]
theorem cl_mem (cl : Cl) : clStr cl ∈ bltNames := by cases cl <;> simp [clStr, bltNames]
/-- the answers for one level of the evaluator -/
structure Snd (P : PN) (Kv : Kn) (n : Nat) : Prop where
  e : ∀ (m : Nat) (c : Cc) (C : CI) (W : WX) (X : Cx) (e : E) (a : Expr), Ctx P C W c Kv X → (ckN P m).e c e a = true → PE X a (tE C X.K W ((evN Kv n).e e))
  t : ∀ (m : Nat) (c : Cc) (C : CI) (W : WX) (X : Cx) (e : E) (a : Expr), Ctx P C W c Kv X → (ckN P m).t c e a = true → PT X a (tT C X.K W (truR ((evN Kv n).e e)))
  s : ∀ (m : Nat) (c : Cc) (C : CI) (W : WX) (X : Cx) (e : S) (a : Stmt), Ctx P C W c Kv X → (ckN P m).s c e a = true → PS X a (sT C X.K W ((evN Kv n).s e))
theorem Snd.zero : Snd P Kv 0 where
  e := fun m c C W X e a h k => ⟨fun pins s σ H Q I q => by obtain ⟨al, env, hh, rh, re, p⟩ := q; exact p.elim⟩
  t := fun m c C W X e a h k => ⟨fun pins s σ H Q I q => by obtain ⟨al, env, hh, rh, re, p⟩ := q; exact p.elim⟩
  s := fun m c C W X e a h k => ⟨fun pins s σ H D I q => by obtain ⟨al, env, hh, rh, re, p⟩ := q; exact p.elim⟩
variable {n m : Nat}
theorem Snd.l (S : Snd P Kv n) (h : Ctx P C W c Kv X) : ∀ {es : List E} {as : List Expr}, ckL ((ckN P m).e c) es as = true → LPE C X W (evN Kv n) es as
  | [], [], _ => .nil
  | [], _ :: _, k => by cases k
  | _ :: _, [], k => by cases k
  | e :: es, a :: as, k => by
    have k := Bool.and_eq_true_iff.mp k
    exact .cons (S.e m c C W X e a h k.1) (S.l h k.2)
theorem Snd.lt (S : Snd P Kv n) (h : Ctx P C W c Kv X) : ∀ {es : List E} {as : List Expr}, ckL ((ckN P m).t c) es as = true → LPT C X W (evN Kv n) es as
  | [], [], _ => .nil
  | [], _ :: _, k => by cases k
  | _ :: _, [], k => by cases k
  | e :: es, a :: as, k => by
    have k := Bool.and_eq_true_iff.mp k
    exact .cons (S.t m c C W X e a h k.1) (S.lt h k.2)
theorem Snd.o (S : Snd P Kv n) (h : Ctx P C W c Kv X) {o : Option E} {a : Option Expr} (k : ckO ((ckN P m).e c) o a = true) : PO X a (tO C X.K W (partEv (evN Kv n) o)) := by
  cases o with
  | none =>
    cases a with
    | none => exact so_none
    | some _ => cases k
  | some e =>
    cases a with
    | none => cases k
    | some a => exact so_some (S.e m c C W X e a h k)
theorem nox_asgL {f : T → D → Env → AH → R Env} (hf : ∀ t d env h, NoX (f t d env h)) : ∀ (ts : List T) (xs : List D) (env : Env) (h : AH), NoX (asgL f ts xs env h)
  | [], [], _, _ => fun _ _ e => by cases e
  | [], _ :: _, _, _ => fun _ _ e => by cases e
  | _ :: _, [], _, _ => fun _ _ e => by cases e
  | t :: ts, x :: xs, env, h => nox_bind (hf t x env h) fun env1 h1 => nox_asgL hf ts xs env1 h1
theorem nox_asgT {r : Ev} : ∀ (k : Nat) (t : T) (d : D) (env : Env) (h : AH), NoX (asgT r k t d env h)
  | 0, _, _, _, _ => fun _ _ e => by cases e
  | k + 1, t, d, env, h => by
    cases t with
    | nm i =>
      intro x h' e
      unfold asgT at e
      dsimp only at e
      split at e <;> cases e
    | tp ts =>
      intro x h' e
      unfold asgT at e
      dsimp only at e
      split at e
      · split at e
        · exact nox_asgL (fun t d env h => nox_asgT k t d env h) _ _ _ _ _ _ e
        · cases e
      · cases e
    | ix o i =>
      refine nox_bind (nox_nox _) fun od h1 => nox_bind (nox_nox _) fun id h2 => ?_
      intro x h' e
      split at e <;> cases e
    | fld o f => intro x h' e; cases e
theorem Snd.tg (S : Snd P Kv n) (h : Ctx P C W c Kv X) {vs : List Nat} : ∀ (k : Nat) {t : T} {a : Expr}, ckT (ckN P m) c vs k t a = true → PG X a (gT C X.K vs (asgT (evN Kv n) k t))
  | 0, _, _, q => by cases q
  | k + 1, t, a, q => by
    cases t with
    | nm i =>
      cases a with
      | Name x p =>
        have q := Bool.and_eq_true_iff.mp q
        have q2 := Bool.and_eq_true_iff.mp q.2
        have hi : X.N[i]? = some x := by rw [h.hN]; exact of_decide_eq_true q.1
        have q3 := q2.2
        have hx : Loc X.env.scope x ∧ (X.fn x = true ∨ X.env.scope.names.lookup x = some .local) := by
          rw [h.sc]
          split at q3
          · rename_i e; exact ⟨.inl e, .inr e⟩
          · rename_i e; exact ⟨.inr e, .inl (h.fc x (of_decide_eq_true q3))⟩
          · cases q3
        exact sg_nm (of_decide_eq_true q2.1) h.nd hi hx.1 hx.2
      | _ => cases q
    | tp ts =>
      cases a with
      | Tuple as kk p =>
        have q := Bool.and_eq_true_iff.mp q
        have q2 := Bool.and_eq_true_iff.mp q.2
        have q3 := Bool.and_eq_true_iff.mp q2.2
        have hl := of_decide_eq_true q2.1
        have all : ∀ {ts : List T} {as : List Expr}, ts.length = as.length → as.all noStar = true → ((ts.zip as).all fun p => ckT (ckN P m) c vs k p.1 p.2) = true → PGs X as (gL C X.K vs (asgL (asgT (evN Kv n) k) ts)) := by
          intro ts
          induction ts with
          | nil =>
            intro as e _ _
            cases as with
            | nil => exact gL_nil'
            | cons _ _ => cases e
          | cons t ts ih =>
            intro as e hs ha
            cases as with
            | nil => cases e
            | cons a as =>
              obtain ⟨s1, s2⟩ := all_cons hs
              obtain ⟨a1, a2⟩ := all_cons (show ((t, a) :: ts.zip as).all (fun p => ckT (ckN P m) c vs k p.1 p.2) = true from ha)
              exact gL_cons (Snd.tg S h k a1) (ih (by simpa using e) s2 a2) s1
        exact sg_tp (h.calm q.1) (all hl q3.1 q3.2) hl q3.1
      | _ => cases q
    | ix o i =>
      cases a with
      | Subscript x y p =>
        have q := Bool.and_eq_true_iff.mp q
        have q2 := Bool.and_eq_true_iff.mp q.2
        exact sg_ix h.hu' (S.e m c C W X o x h q.1) (S.e m c C W X i y h q2.1) q2.2
      | _ => cases q
    | fld o f => cases q
theorem Snd.it (S : Snd P Kv n) (h : Ctx P C W c Kv X) {i : I} {tg a : Expr} (q : ckI (ckN P m) c i tg a = true) : PI X tg a (iT C X.K W (itEv (evN Kv n) i)) := by
  cases i with
  | sq e => exact si_sq (S.e m c C W X e a h q)
  | rg1 e =>
    unfold ckI at q
    dsimp only at q
    split at q
    · simp only [Bool.and_eq_true, decide_eq_true_eq] at q
      obtain ⟨rfl, q1, q2, q3⟩ := q
      exact si_rg1 (h.gl q1) (h.blt _ (by simp [bltNames])) (S.e m c C W X e _ h q2) q3
    · cases q
  | rg2 e e2 =>
    unfold ckI at q
    dsimp only at q
    split at q
    · simp only [Bool.and_eq_true, decide_eq_true_eq] at q
      obtain ⟨rfl, q1, q2, q3, q4, q5⟩ := q
      exact si_rg2 (h.gl q1) (h.blt _ (by simp [bltNames])) (S.e m c C W X e _ h q2) (S.e m c C W X e2 _ h q3) q4 q5
    · cases q
  | en e =>
    unfold ckI at q
    dsimp only at q
    split at q
    · simp only [Bool.and_eq_true, decide_eq_true_eq] at q
      obtain ⟨rfl, q1, q2, q3, q4⟩ := q
      cases tg with
      | Tuple elts kk tpos => exact si_en (h.gl q1) (h.blt _ (by simp [bltNames])) (S.e m c C W X e _ h q2) q3
      | _ => cases q4
    · cases q
  | zp e e2 =>
    unfold ckI at q
    dsimp only at q
    split at q
    · simp only [Bool.and_eq_true, decide_eq_true_eq] at q
      obtain ⟨rfl, q1, q2, q3, q4, q5, q6⟩ := q
      cases tg with
      | Tuple elts kk tpos => exact si_zp (h.gl q1) (h.blt _ (by simp [bltNames])) (S.e m c C W X e _ h q2) (S.e m c C W X e2 _ h q3) q4 q5
      | _ => cases q6
    · cases q
  | _ => cases q
end
end Rw
end

section
set_option Elab.async false
set_option linter.all false
set_option maxRecDepth 100000
set_option maxHeartbeats 4000000
/-! RfM: the checker is sound. -/
namespace Rw
open PySem PySem.Spec PyProof.Rows L2
section
variable {P : PN} {C : CI} {W : WX} {c : Cc} {Kv : Kn} {X : Cx} {n m : Nat}
theorem pe_bad {e : Expr} : PE X e (tE C X.K W fun _ _ => .bad) := ⟨fun pins s σ H Q I q => by obtain ⟨al, env, hh, rh, re, p⟩ := q; exact p.elim⟩
theorem ownOf_ix {N : List Str} {vs : List Nat} : (ownOf N vs).map (·.2) = vs := by
  unfold ownOf
  rw [List.map_map]
  exact List.map_id _
/-- the parts of a list comprehension -/
theorem Snd.lc (S : Snd P Kv n) (h : Ctx P C W c Kv X) {t : T} {vs : List Nat} {i : I} {cond : Option E} {e : E} {elt : Expr} {gs : List Comprehension} {scope : Scope} (q : ckLc (ckN P m) c t vs i cond e elt gs scope = true) :
    ∃ tg iter ifs, gs = [⟨tg, iter, ifs, 0⟩] ∧ X.calm = true ∧ PI X tg iter (iT C X.K W (itEv (evN Kv n) i)) ∧ BlkOk X.N X.env.scope scope (ownOf c.N vs) ∧
      (∀ (s : Shared) (H : Hp) (Ca : Addr) (cl : List (Str × Addr)) (fp : List Addr), PG (X.blk s H scope (compEnvC scope cl Ca X.env) fp) tg (gT C X.K ((ownOf c.N vs).map (·.2)) (asgT (evN Kv n) 4 t))) ∧
      (∀ (s : Shared) (H : Hp) (Ca : Addr) (cl : List (Str × Addr)) (fp : List Addr), PTs (X.blk s H scope (compEnvC scope cl Ca X.env) fp) ifs (ttM C X.K (cond.map (evN Kv n).e))) ∧
      (∀ (s : Shared) (H : Hp) (Ca : Addr) (cl : List (Str × Addr)) (fp : List Addr), PE (X.blk s H scope (compEnvC scope cl Ca X.env) fp) elt (tE C X.K W0 ((evN Kv n).e e))) ∧ ∀ x, foldedSetIterable iter X.env x = pure x := by
  unfold ckLc at q
  split at q
  · rename_i tg iter ifs z
    simp only [Bool.and_eq_true, decide_eq_true_eq] at q
    obtain ⟨rfl, q1, q2, q3, q4, q5, q6, q7⟩ := q
    have ok : BlkOk X.N X.env.scope scope (ownOf c.N vs) := by
      rw [h.hN, h.sc]
      exact blkOk_by q4
    refine ⟨tg, iter, ifs, rfl, h.calm q1, S.it h q2, ok, fun s H Ca cl fp => ?_, fun s H Ca cl fp => ?_, fun s H Ca cl fp => ?_, set_of (by simpa using q3)⟩
    · rw [ownOf_ix]
      exact S.tg (h.blk q1 ok s H Ca cl fp) 4 q5
    · split at q7
      · exact pts_nil
      · rename_i q' x
        exact pts_one (S.t m _ C W0 _ q' x (h.blk q1 ok s H Ca cl fp) q7)
      · cases q7
    · exact S.e m _ C W0 _ e elt (h.blk q1 ok s H Ca cl fp) q6
  · cases q
theorem turn_eq {r : Ev} {t : T} {vs : List Nat} {cond : Option E} {e : E} (env : Env) (x : D) (h : AH) : turnEv r t vs cond e env x h = turnM (asgT r 4 t) vs (cond.map r.e) (r.e e) env x h := by
  cases cond <;> rfl
theorem lc_eq {K : Kn} {r : Ev} {t : T} {vs : List Nat} {i : I} {cond : Option E} {e : E} : eEv K r (.lc t vs i cond e) = lcM (itEv r i) (asgT r 4 t) vs (cond.map r.e) (r.e e) := by
  funext env h
  show (itEv r i env h).bind _ = _
  unfold lcM
  simp only [turn_eq]
theorem meSlot (m : ME) (hm : m ≠ .join) (hu : X.A.units + 65 < cLine) : ∃ T id, PlainAttrs T ∧ Slot T (meName m) id ∧ typeOf (.builtin id) = pure (.type "method_descriptor") ∧ MtM X id (rM C X.K m) ∧
    ∀ {H : Hp} {al : AL} {h : AH} {d : D} {v : V}, RepH C X.K H al h → Rep C X.K H al d v → meTy m h d = true → tyV X.K T v H := by
  have hu' : X.A.units + 64 < cLine := by omega
  cases m with
  | append => exact ⟨_, _, PySem.F.plainAttrs_list, PySem.F.slot_list_append, PySem.F.type_list_append, cm_append, fun r q e => ty_list r q e⟩
  | extend => exact ⟨_, _, PySem.F.plainAttrs_list, PySem.F.slot_list_extend, PySem.F.type_list_extend, cm_extend, fun r q e => ty_list r q e⟩
  | pop => exact ⟨_, _, PySem.F.plainAttrs_list, PySem.F.slot_list_pop, PySem.F.type_list_pop, cm_pop, fun r q e => ty_list r q e⟩
  | popAt => exact ⟨_, _, PySem.F.plainAttrs_list, PySem.F.slot_list_pop, PySem.F.type_list_pop, cm_popAt, fun r q e => ty_list r q e⟩
  | index => exact ⟨_, _, PySem.F.plainAttrs_list, PySem.F.slot_list_index, PySem.F.type_list_index, cm_index hu, fun r q e => ty_list r q e⟩
  | get => exact ⟨_, _, PySem.F.plainAttrs_dict, PySem.F.slot_dict_get, PySem.F.type_dict_get, cm_get hu', fun r q e => ty_dict r q e⟩
  | join => exact absurd rfl hm
theorem vis_of (h : Ctx P C W c Kv X) {i : Nat} {x : Str} (q : visB c i x = true) : X.N[i]? = some x ∧ Vis X.env.scope x ∧ (x == ("__debug__" : Str)) = false ∧ (x == ("__classdict__" : Str)) = false := by
  simp only [visB, Bool.and_eq_true, decide_eq_true_eq] at q
  obtain ⟨q1, q2, q3⟩ := q
  refine ⟨by rw [h.hN]; exact q1, ?_, nmOk_d q3⟩
  rw [h.sc]
  split at q2
  · rename_i e; exact .inl e
  · rename_i e; exact .inr (.inl e)
  · rename_i e; exact .inr (.inr e)
  · cases q2
theorem cls_pe (h : Ctx P C W c Kv X) {k : Nat} {y : Str} {p3 : Pos} (q6 : P.cl[k]? = some y) (q4 : glB c y = true) (q5 : nmOk y = true) : ∃ u : V, (∀ z, RelV u z → z = C.cls k) ∧ PE X (.Name y p3) (tC u) := by
  have hk : k < Kv.anc.length := by rw [← h.cln]; exact lt_of_at q6
  by_cases h0 : k = 0
  · subst h0
    have e0 := h.xs.v0
    rcases h.cl 0 y q6 with hm | ⟨hm, hb, hn⟩
    · exact ⟨.ty "ValueError", fun z r => by cases r; exact e0.symm, pe_glob (h.gl q4) hm (by rw [e0]; exact rfl) (nmOk_d q5).1⟩
    · exact ⟨.ty "ValueError", fun z r => by cases r; exact e0.symm, pe_bltn (h.gl q4) hm (by rw [hb, e0]) rfl hn (nmOk_d q5).1⟩
  · obtain ⟨l, el⟩ : ∃ l, Kv.anc[k]? = some l := ⟨_, List.getElem?_eq_getElem hk⟩
    obtain ⟨D, eD, _⟩ := h.xs.own k l el h0
    rcases h.cl k y q6 with hm | ⟨hm, hb, hn⟩
    · exact ⟨.ref D, fun z r => by cases r; exact eD.symm, pe_glob (h.gl q4) hm (by rw [eD]; rfl) (nmOk_d q5).1⟩
    · exact ⟨.ref D, fun z r => by cases r; exact eD.symm, pe_bltn (h.gl q4) hm hb (by rw [eD]; rfl) hn (nmOk_d q5).1⟩
theorem Snd.stepE (S : Snd P Kv n) (h : Ctx P C W c Kv X) {e : E} {a : Expr} (q : eCk P (ckN P m) c e a = true) : PE X a (tE C X.K W (eEv Kv (evN Kv n) e)) := by
  cases e with
  | v i =>
    cases a with
    | Name x p =>
      simp only [eCk, visB, Bool.and_eq_true, decide_eq_true_eq] at q
      obtain ⟨⟨q1, q2, q3⟩, q4⟩ := q
      have hv : Vis X.env.scope x := by
        rw [h.sc]
        split at q2
        · rename_i e; exact .inl e
        · rename_i e; exact .inr (.inl e)
        · rename_i e; exact .inr (.inr e)
        · cases q2
      exact se_v (by rw [h.xi]; exact q4) (by rw [h.hN]; exact q1) hv (nmOk_d q3).1 (nmOk_d q3).2
    | _ => cases q
  | c d =>
    cases a with
    | Constant k j p =>
      have q : ckC d k = true := q
      unfold ckC at q
      split at q
      · cases of_decide_eq_true q; exact se_c pe_int fun _ _ => rfl
      · have e := eq_of_beq q
        subst e
        exact se_c pe_bl fun _ _ => rfl
      · exact se_c pe_non fun _ _ => rfl
      · cases of_decide_eq_true q; exact se_c pe_str fun _ _ => rfl
      · cases q
    | _ => cases q
  | gl g =>
    cases a with
    | Name x p =>
      simp only [eCk, Bool.and_eq_true, decide_eq_true_eq] at q
      obtain ⟨q1, q2, q3⟩ := q
      show PE X _ (tE C X.K W fun _ h => opt h (Kv.g[g]?.map fun d => (d, false)))
      cases eg : Kv.g[g]? with
      | none => exact pe_bad
      | some d =>
        obtain ⟨v, u, h1, h2, h3⟩ := h.gls g x d q2 eg
        exact se_gl (h.gl q1) h1 h2 (nmOk_d q3).1 h3
    | _ => cases q
  | tup es =>
    cases a with
    | Tuple as k p =>
      have q := Bool.and_eq_true_iff.mp (show (ckL ((ckN P m).e c) es as && as.all noStar) = true from q)
      exact se_tup (sa_all (S.l h q.1) q.2)
    | _ => cases q
  | lst es =>
    cases a with
    | List as p =>
      have q := Bool.and_eq_true_iff.mp (show (ckL ((ckN P m).e c) es as && as.all noStar) = true from q)
      exact se_lst (sa_all (S.l h q.1) q.2)
    | _ => cases q
  | emT =>
    unfold eCk at q
    dsimp only at q
    split at q
    · exact se_emT
    · cases q
  | emI =>
    unfold eCk at q
    dsimp only at q
    split at q
    · exact se_emI
    · cases q
  | bin op x y =>
    cases a with
    | BinOp p o w pos =>
      simp only [eCk, Bool.and_eq_true, decide_eq_true_eq] at q
      obtain ⟨rfl, q1, q2⟩ := q
      exact se_bin (S.e m c C W X x p h q1) (S.e m c C W X y w h q2)
    | _ => cases q
  | neg x =>
    unfold eCk at q
    dsimp only at q
    split at q
    · exact se_neg (S.e m c C W X x _ h q)
    · cases q
  | not x =>
    unfold eCk at q
    dsimp only at q
    split at q
    · exact se_not (S.e m c C W X x _ h q)
    · cases q
  | cmp op x y =>
    unfold eCk at q
    dsimp only at q
    split at q
    · simp only [Bool.and_eq_true, decide_eq_true_eq] at q
      obtain ⟨rfl, q1, q2, q3⟩ := q
      exact se_cmp h.hu' (S.e m c C W X x _ h q1) (S.e m c C W X y _ h q2) (by simpa using q3)
    · cases q
  | chain op op' x y z =>
    unfold eCk at q
    dsimp only at q
    split at q
    · simp only [Bool.and_eq_true, decide_eq_true_eq] at q
      obtain ⟨rfl, rfl, q1, q2, q3, q4⟩ := q
      exact se_chain h.hu' (S.e m c C W X x _ h q1) (S.e m c C W X y _ h q2) (S.e m c C W X z _ h q3) (by simpa using q4)
    · cases q
  | and es =>
    unfold eCk at q
    dsimp only at q
    split at q
    · exact se_and (S.l h q)
    · cases q
  | or es =>
    unfold eCk at q
    dsimp only at q
    split at q
    · exact se_or (S.l h q)
    · cases q
  | ife b x y =>
    cases a with
    | IfExp p u w pos =>
      simp only [eCk, Bool.and_eq_true] at q
      obtain ⟨q1, q2, q3⟩ := q
      exact se_ife (S.t m c C W X b p h q1) (S.e m c C W X x u h q2) (S.e m c C W X y w h q3)
    | _ => cases q
  | ix x i =>
    cases a with
    | Subscript p w pos =>
      simp only [eCk, Bool.and_eq_true] at q
      obtain ⟨q1, q2, q3⟩ := q
      exact se_ix h.hu' (S.e m c C W X x p h q1) (S.e m c C W X i w h q2) q3
    | _ => cases q
  | sl x lo hi =>
    unfold eCk at q
    dsimp only at q
    split at q
    · simp only [Bool.and_eq_true] at q
      obtain ⟨q1, q2, q3⟩ := q
      exact se_sl (S.e m c C W X x _ h q1) (S.o h q2) (S.o h q3)
    · cases q
  | rev x =>
    unfold eCk at q
    dsimp only at q
    split at q
    · simp only [Bool.and_eq_true, decide_eq_true_eq] at q
      obtain ⟨rfl, q1⟩ := q
      exact se_rev (S.e m c C W X x _ h q1)
    · cases q
  | rvf x i =>
    unfold eCk at q
    dsimp only at q
    split at q
    · simp only [Bool.and_eq_true, decide_eq_true_eq] at q
      obtain ⟨rfl, q1, q2⟩ := q
      exact se_rvf (S.e m c C W X x _ h q1) (S.e m c C W X i _ h q2)
    · cases q
  | dI1 k e =>
    unfold eCk at q
    dsimp only at q
    split at q
    · simp only [Bool.and_eq_true] at q
      exact se_dI1 (S.e m c C W X k _ h q.1) (S.e m c C W X e _ h q.2)
    · cases q
  | call f es =>
    unfold eCk at q
    dsimp only at q
    split at q
    · rename_i x p as pos
      simp only [Bool.and_eq_true, decide_eq_true_eq] at q
      obtain ⟨q0, q1, q2, q3, q4, q5⟩ := q
      obtain ⟨k, fa, fd, ps, F, hr, hm, hk, hb⟩ := h.fns f x q2 q0
      cases as with
      | nil =>
        cases es with
        | nil => exact se_call0 F hr (h.gl q1) hm hk hb h.tk (nmOk_d q5).1
        | cons _ _ => cases q3
      | cons a as => exact se_call F hr (h.gl q1) hm hk hb h.tk (sa_all (S.l h q3) q4) (nmOk_d q5).1 q4
    · cases q
  | bi f es =>
    unfold eCk at q
    dsimp only at q
    split at q
    · rename_i x p y as pos
      simp only [Bool.and_eq_true, decide_eq_true_eq] at q
      obtain ⟨rfl, q1, q2, q3, q4⟩ := q
      have q2' : biOk X.calm f = true := by
        cases f <;> first | rfl | exact h.calm q2 | cases q2
      exact se_bi q2' h.hu' (h.gl q1) (h.blt _ (bi_mem f)) (sa_all (S.l h q3) (by simpa [Bool.and_eq_true] using q4)) (by simpa [Bool.and_eq_true] using q4)
    · cases q
  | isi x cl =>
    unfold eCk at q
    dsimp only at q
    split at q
    · simp only [Bool.and_eq_true, decide_eq_true_eq] at q
      obtain ⟨rfl, rfl, q1, q2, q3, q4⟩ := q
      exact se_isi (h.gl q1) (h.blt _ (by simp [bltNames])) (h.gl q2) (h.blt _ (cl_mem cl)) (S.e m c C W X x _ h q3) q4
    · cases q
  | me k o es =>
    unfold eCk at q
    dsimp only at q
    split at q
    · rename_i x nm apos as pos
      simp only [Bool.and_eq_true, decide_eq_true_eq] at q
      obtain ⟨rfl, q1, q2, q3, q4, q5, q6, q7⟩ := q
      have hk : k ≠ .join := fun z => by subst z; cases q7
      obtain ⟨T, id, pa, slot, ty, mt, tv⟩ := meSlot (C := C) (X := X) k hk h.hu
      cases as with
      | nil =>
        cases es with
        | nil => exact se_me0 pa slot ty mt tv (S.e m c C W X o x h q2) q4 q6
        | cons _ _ => cases q3
      | cons a as =>
        refine se_me pa slot ty mt tv (S.e m c C W X o x h q2) (sa_all (S.l h q3) q5) q4 q5 ?_ q6
        rw [q1]
        cases k <;> decide
    · cases q
  | lrg t i =>
    unfold eCk at q
    dsimp only at q
    split at q
    · rename_i x p y p2 as pos2 pos
      simp only [Bool.and_eq_true, decide_eq_true_eq] at q
      obtain ⟨q0, rfl, rfl, q1, q2, q3⟩ := q
      have hb : X.mg (if t then ("tuple" : Str) else ("list" : Str)) = none := by
        cases t
        · exact h.blt _ (by simp [bltNames])
        · exact h.blt _ (by simp [bltNames])
      split at q3
      · simp only [Bool.and_eq_true] at q3
        exact se_lrg1 (h.calm q0) (h.gl q1) hb (h.gl q2) (h.blt _ (by simp [bltNames])) (S.e m c C W X _ _ h q3.1) q3.2
      · simp only [Bool.and_eq_true] at q3
        exact se_lrg2 (h.calm q0) (h.gl q1) hb (h.gl q2) (h.blt _ (by simp [bltNames])) (S.e m c C W X _ _ h q3.1) (S.e m c C W X _ _ h q3.2.1) q3.2.2.1 q3.2.2.2
      · cases q3
    · cases q
  | lc t vs i cond e =>
    cases a with
    | ListComp elt gs scope pos =>
      obtain ⟨tg, iter, ifs, rfl, hc, hi, ok, hg, ht, he, hs⟩ := S.lc h (show ckLc (ckN P m) c t vs i cond e elt gs scope = true from q)
      rw [lc_eq]
      have := se_lc (pos := pos) hc h.nd hi ok hg ht he hs
      rw [ownOf_ix] at this
      exact this
    | _ => cases q
  | reg e => exact se_reg (S.e m c C W X e a h q)
  | xf i k =>
    unfold eCk at q
    dsimp only at q
    split at q
    · rename_i x p f pos
      simp only [Bool.and_eq_true, decide_eq_true_eq, Bool.not_eq_true'] at q
      obtain ⟨q1, q2, q3, q4⟩ := q
      obtain ⟨v1, v2, v3⟩ := vis_of h q1
      exact se_xf (h.ins q3) h.xs (fun n l j h0 e1 e2 => h.fl n l j k f h0 e1 e2 q2) v1 v2 v3.1 v3.2 q4
    · cases q
  | xi i k =>
    unfold eCk at q
    dsimp only at q
    split at q
    · rename_i f p1 x p2 y p3 pos
      simp only [Bool.and_eq_true, decide_eq_true_eq, Bool.not_eq_true'] at q
      obtain ⟨rfl, q1, q2, q3, q4, q5, q6⟩ := q
      obtain ⟨v1, v2, v3⟩ := vis_of h q3
      have hk : k < Kv.anc.length := by rw [← h.cln]; exact lt_of_at q6
      exact se_xi (h.ins q2) h.xs hk (h.gl q1) (h.blt _ (by simp [bltNames])) v1 v2 v3.1 v3.2 (cls_pe h q6 q4 q5)
    · cases q
  | _ => cases q
theorem Snd.stepT (S : Snd P Kv n) (h : Ctx P C W c Kv X) {e : E} {a : Expr} (q : tCk P (ckN P m) c e a = true) : PT X a (tT C X.K W (truR (eEv Kv (evN Kv n) e))) := by
  unfold tCk at q
  split at q
  · rename_i hp
    exact st_val (S.stepE h q) hp
  · split at q
    · unfold eCk at q
      dsimp only at q
      split at q
      · simp only [Bool.and_eq_true, decide_eq_true_eq] at q
        obtain ⟨rfl, q1, q2, q3⟩ := q
        exact st_cmp h.hu' (S.e m c C W X _ _ h q1) (S.e m c C W X _ _ h q2) (by simpa using q3)
      · cases q
    · unfold eCk at q
      dsimp only at q
      split at q
      · simp only [Bool.and_eq_true, decide_eq_true_eq] at q
        obtain ⟨rfl, rfl, q1, q2, q3, q4⟩ := q
        exact st_chain h.hu' (S.e m c C W X _ _ h q1) (S.e m c C W X _ _ h q2) (S.e m c C W X _ _ h q3) (by simpa using q4)
      · cases q
    · split at q
      · exact (sw_and (S.lt h q)).pt
      · cases q
    · split at q
      · exact (sw_or (S.lt h q)).pt
      · cases q
    · split at q
      · exact st_not (S.t m c C W X _ _ h q)
      · cases q
    · split at q
      · simp only [Bool.and_eq_true] at q
        exact st_ife (S.t m c C W X _ _ h q.1) (S.t m c C W X _ _ h q.2.1) (S.t m c C W X _ _ h q.2.2)
      · cases q
    · cases q
theorem fz_eq {n : Nat} (i : Nat) : (evN Kv (n + 1)).s (.fz i) = fzM i := rfl
theorem Snd.ss (S : Snd P Kv n) (h : Ctx P C W c Kv X) : ∀ {ss : List Rw.S} {sts : List Stmt}, ckSs ((ckN P m).s c) ss sts = true → PSs X sts (sT C X.K W (ssEv (evN Kv n) ss)) := by
  intro ss
  induction ss with
  | nil =>
    intro sts q
    cases sts with
    | nil => exact sp_nil
    | cons _ _ => cases q
  | cons s ss ih =>
    intro sts q
    by_cases hf : ∃ i, s = .fz i
    · obtain ⟨i, rfl⟩ := hf
      have q : ckSs ((ckN P m).s c) ss sts = true := by
        cases sts <;> exact q
      have := ih q
      cases n with
      | zero => exact ⟨fun pins s σ H D I q => by obtain ⟨al, env, hh, rh, re, p⟩ := q; exact p.elim⟩
      | succ n => exact sp_fz this
    · cases sts with
      | nil =>
        unfold ckSs at q
        cases s <;> first | cases q | exact absurd ⟨_, rfl⟩ hf
      | cons st sts =>
        have q : ((ckN P m).s c s st && ckSs ((ckN P m).s c) ss sts) = true := by
          unfold ckSs at q
          cases s <;> first | exact q | exact absurd ⟨_, rfl⟩ hf
        have q := Bool.and_eq_true_iff.mp q
        exact sp_cons (S.s m c C W X s st h q.1) (ih q.2)
theorem Snd.hs (S : Snd P Kv n) (h : Ctx P C W c Kv X) : ∀ {hs : List Hn} {hds : List ExceptHandler}, ckHs P c (fun i => ckSs ((ckN P m).s (c.suite i))) hs hds = true → HdsG X hds (clsL C X.K (evN Kv n) hs) := by
  intro hs
  induction hs with
  | nil =>
    intro hds q
    cases hds with
    | nil => exact .nil
    | cons _ _ => cases q
  | cons y hs ih =>
    obtain ⟨k, i, a⟩ := y
    intro hds q
    unfold ckHs at q
    split at q
    · rename_i e2; cases e2
    · rename_i k' i' a' hs' x np nm b su pp hds' e1
      cases e1
      simp only [Bool.and_eq_true, decide_eq_true_eq] at q
      obtain ⟨q1, q2, q3, q4, q5, q6, q7⟩ := q
      have hsu : ∀ (ad : Addr) (oe : Obj) (cls : Value) (d : Option Addr) (pn : List (Addr × Obj)), Zc cls d oe → (∃ vs, oe.data = .fields vs) → PSs (X.suite ad ((ad, oe) :: pn)) (b :: su) (tsOf C X.K i (ssEv (evN Kv n) a) ad cls d) := by
        intro ad oe cls d pn hz hf
        refine ⟨fun pins s σ H D I z => ?_⟩
        obtain ⟨n', dx, rfl, rfl, z⟩ := z
        exact (S.ss (h.suite ad oe n' dx i pn hz hf) q6).run pins s σ H D I z
      split at q5
      · exact .bare (h.names q4 q2 q3) hsu (ih q7)
      · rename_i i2 y2
        simp only [Bool.and_eq_true, decide_eq_true_eq] at q5
        exact .named (h.names q4 q2 q3) (by rw [h.hN]; exact q5.1) (by show X.env.scope.names.lookup y2 = _; rw [h.sc]; exact q5.2) hsu (ih q7)
      · cases q5
    · cases q
theorem sT_congr {st : Stmt} {m m' : Env → AH → O} (h : PS X st (sT C X.K W m)) (e : m = m') : PS X st (sT C X.K W m') := e ▸ h
theorem Snd.stepS (SS : ∀ k, k ≤ n → Snd P Kv k) (h : Ctx P C W c Kv X) {s : Rw.S} {st : Stmt} (q : sCk P (ckN P m) c s st = true) : PS X st (sT C X.K W (sEv Kv (evN Kv n) s)) := by
  have S := SS n (Nat.le_refl _)
  cases s with
  | asg t e =>
    unfold sCk at q
    dsimp only at q
    split at q
    · rename_i tg v pos
      rcases Bool.or_eq_true_iff.mp q with q | q
      · rw [Bool.and_eq_true, Bool.and_eq_true] at q
        exact sp_asg (fun d env h => nox_asgT 4 t d env h) (S.e m c C W X e v h q.2.1) (S.tg h 4 q.2.2) h.kd (by rw [h.sc]; exact q.1)
      · split at q
        · rename_i i y py elt gs scope p2 t' vs it cond el eu _
          simp only [Bool.and_eq_true, decide_eq_true_eq] at q
          obtain ⟨q1, q2, q3, q4⟩ := q
          have key : ∀ (j : Nat) (hj : j ≤ n) (mm : Env → AH → R DF), (∀ σ H Q, tE C X.K W mm σ H Q → tE C X.K W (lcM (itEv (evN Kv j) it) (asgT (evN Kv j) 4 t') vs (cond.map (evN Kv j).e) ((evN Kv j).e el)) σ H Q) → PS X (.Assign [.Name y py] (.ListComp elt gs scope p2) pos) (sT C X.K W (asgM mm (nmM i))) := by
            intro j hj mm lift
            obtain ⟨tg, iter, ifs, rfl, hc, hi, ok, hg, ht, he, hs⟩ := (SS j hj).lc h q4
            exact sp_setLc h.kd hc h.nd (by rw [h.hN]; exact q1) (by rw [h.sc]; exact q2) (by rw [h.sc]; exact q3) hi ok hg ht he hs fun σ H Q z => by rw [ownOf_ix]; exact lift σ H Q z
          cases n with
          | zero => exact ⟨fun pins s σ H D I q => by obtain ⟨al, env, hh, rh, re, p⟩ := q; exact p.elim⟩
          | succ n =>
            have direct : ∀ (n : Nat) σ H Q, tE C X.K W ((evN Kv (n + 1)).e (.lc t' vs it cond el)) σ H Q → tE C X.K W (lcM (itEv (evN Kv n) it) (asgT (evN Kv n) 4 t') vs (cond.map (evN Kv n).e) ((evN Kv n).e el)) σ H Q := fun n σ H Q z => by
              have e1 : (evN Kv (n + 1)).e (.lc t' vs it cond el) = eEv Kv (evN Kv n) (.lc t' vs it cond el) := rfl
              rw [e1, lc_eq] at z
              exact z
            cases e with
            | lc _ _ _ _ _ =>
              have eu' : E.lc _ _ _ _ _ = E.lc t' vs it cond el := eu
              cases eu'
              exact key n (Nat.le_succ n) _ (direct n)
            | reg e' =>
              have eu' : e' = E.lc t' vs it cond el := eu
              subst eu'
              cases n with
              | zero =>
                refine ⟨fun pins s σ H D I q => ?_⟩
                obtain ⟨al, env, hh, rh, re, p⟩ := q
                exact p.elim
              | succ n => exact key n (Nat.le_trans (Nat.le_succ n) (Nat.le_succ _)) _ fun σ H Q z => direct n σ H Q (lift_reg z)
            | _ => cases eu
        · rename_i i j x px y py kt pt a b k2 pt2 es eu _
          simp only [Bool.and_eq_true, decide_eq_true_eq] at q
          obtain ⟨q0, q1, q2, q3, q4, q5, q6, q7, q8, q9⟩ := q
          have hw := sw_pure (env := X.env) (k := kt) (k2 := k2) (p := pt) (p2 := pt2) (by unfold PySem.Env.blockKind; rw [h.kd]; rfl) (by rw [h.sc]; exact q7)
          have fin : ∀ (j' : Nat) (hj : j' ≤ n), PS X (.Assign [.Tuple [.Name x px, .Name y py] kt pt] (.Tuple [a, b] k2 pt2) pos) (sT C X.K W (parM (evL (evN Kv j') es) (asgT (evN Kv n) 4 (.tp [.nm i, .nm j])))) := fun j' hj =>
            sp_par (h.calm q1) h.nd (by rw [h.hN]; exact q2) (by rw [h.hN]; exact q3) q4 (by rw [h.sc]; exact q5) (by rw [h.sc]; exact q6) (sa_all ((SS j' hj).l h q8) q9) hw
          cases n with
          | zero => exact ⟨fun pins s σ H D I q => by obtain ⟨al, env, hh, rh, re, p⟩ := q; exact p.elim⟩
          | succ n =>
            cases e with
            | tup es' =>
              have eu' : E.tup es' = E.tup es := eu
              cases eu'
              exact fin n (Nat.le_succ n)
            | _ => cases q0
        · rename_i i j l x px y py z pz kt pt a b d k2 pt2 es eu _
          simp only [Bool.and_eq_true, decide_eq_true_eq] at q
          obtain ⟨q0, q1, q2, q3, q3', ⟨q4, q4', q4''⟩, q5, q6, q6', q7, q8, q9⟩ := q
          have hw := sw_pure (env := X.env) (k := kt) (k2 := k2) (p := pt) (p2 := pt2) (by unfold PySem.Env.blockKind; rw [h.kd]; rfl) (by rw [h.sc]; exact q7)
          have fin : ∀ (j' : Nat) (hj : j' ≤ n), PS X (.Assign [.Tuple [.Name x px, .Name y py, .Name z pz] kt pt] (.Tuple [a, b, d] k2 pt2) pos) (sT C X.K W (parM (evL (evN Kv j') es) (asgT (evN Kv n) 4 (.tp [.nm i, .nm j, .nm l])))) := fun j' hj =>
            sp_par3 (h.calm q1) h.nd (by rw [h.hN]; exact q2) (by rw [h.hN]; exact q3) (by rw [h.hN]; exact q3') q4 q4' q4'' (by rw [h.sc]; exact q5) (by rw [h.sc]; exact q6) (by rw [h.sc]; exact q6') (sa_all ((SS j' hj).l h q8) q9) hw
          cases n with
          | zero => exact ⟨fun pins s σ H D I q => by obtain ⟨al, env, hh, rh, re, p⟩ := q; exact p.elim⟩
          | succ n =>
            cases e with
            | tup es' =>
              have eu' : E.tup es' = E.tup es := eu
              cases eu'
              exact fin n (Nat.le_succ n)
            | _ => cases q0
        · cases q
    · cases q
  | ex e =>
    cases st with
    | Expr v pos =>
      have q := Bool.and_eq_true_iff.mp (show (noComp v && (ckN P m).e c e v) = true from q)
      exact sp_ex (S.e m c C W X e v h q.2) q.1
    | _ => cases q
  | ife b x y =>
    cases st with
    | If p u w pos =>
      simp only [sCk, Bool.and_eq_true] at q
      exact sp_if (S.t m c C W X b p h q.1) (S.ss h q.2.1) (S.ss h q.2.2)
    | _ => cases q
  | «for» t i b =>
    unfold sCk at q
    dsimp only at q
    split at q
    · simp only [Bool.and_eq_true] at q
      obtain ⟨q1, q2, q3, q4, q5⟩ := q
      exact sp_for h.own (h.calm q1) (fun d env h => nox_asgT 4 t d env h) (S.it h q2) (S.tg h 4 q4) (S.ss h q5) (set_of (by simpa using q3))
    · cases q
  | whl b x =>
    unfold sCk at q
    dsimp only at q
    split at q
    · simp only [Bool.and_eq_true] at q
      exact sp_whl h.own (S.t m c C W X b _ h q.1) (S.ss h q.2)
    · cases q
  | ret e =>
    unfold sCk at q
    dsimp only at q
    split at q
    · exact sp_ret (S.e m c C W X e _ h q)
    · cases q
  | no => exact ⟨fun pins s σ H D I q => by obtain ⟨al, env, hh, rh, re, p⟩ := q; exact p.elim⟩
  | retN =>
    unfold sCk at q
    dsimp only at q
    split at q
    · exact sp_retN
    · cases q
  | pass =>
    unfold sCk at q
    dsimp only at q
    split at q
    · exact sp_pass
    · cases q
  | cont =>
    unfold sCk at q
    dsimp only at q
    split at q
    · exact sp_cont
    · cases q
  | brk =>
    unfold sCk at q
    dsimp only at q
    split at q
    · exact sp_brk
    · cases q
  | rse k es =>
    unfold sCk at q
    dsimp only at q
    split at q
    · rename_i x p a p2 pos e
      simp only [Bool.and_eq_true, decide_eq_true_eq] at q
      obtain ⟨q1, q2, q3, q4, q5, q6, q7, q8⟩ := q
      refine sT_congr (sp_rse (ms := evL (evN Kv n) [e]) (h.mkd q1 q2 k x q5 q6) (h.calm q2) h.tk (h.rm q1 q2) (h.gl q3) (nmOk_d q4).1 ?_ q8) rfl
      exact sa_all (Paired.cons (S.e m c C W X e a h q7) .nil) (by simpa using q8)
    · cases q
  | «try» b hs =>
    unfold sCk at q
    dsimp only at q
    split at q
    · rename_i body h0 hds pos
      simp only [Bool.and_eq_true] at q
      obtain ⟨q1, q2, q3, q4⟩ := q
      obtain ⟨s1, s2⟩ := h.stk q1 q2
      exact sp_try h.xs (h.xa0 q2) s1 s2 h.nd h.tk (fun W' pn xe tk own => S.ss (h.tr tk own q2) q3) (S.hs h q4)
    · cases q
  | _ => cases q
theorem Snd.upTo : ∀ n : Nat, ∀ k, k ≤ n → Snd P Kv k
  | 0, k, h => by
    have e : k = 0 := Nat.le_zero.mp h
    subst e
    exact Snd.zero
  | n + 1, k, h => by
    have SS := Snd.upTo n
    by_cases hk : k ≤ n
    · exact SS k hk
    · have e : k = n + 1 := by omega
      subst e
      have S := SS n (Nat.le_refl _)
      refine ⟨fun m c C W X e a h q => ?_, fun m c C W X e a h q => ?_, fun m c C W X e a h q => ?_⟩
      · cases m with
        | zero => cases q
        | succ m => exact S.stepE h q
      · cases m with
        | zero => cases q
        | succ m => exact S.stepT h q
      · cases m with
        | zero => cases q
        | succ m => exact Snd.stepS SS h q
theorem Snd.all (n : Nat) : Snd P Kv n := Snd.upTo n n (Nat.le_refl _)
end
end Rw
end

section
set_option Elab.async false
set_option linter.all false
set_option maxRecDepth 100000
set_option maxHeartbeats 4000000
/-! RfF: every def keeps its promise. -/
namespace Rw
open PySem PySem.Spec PyProof.Rows L2
/-- a def of the text -/
structure Tx where
  /-- the module's name for it -/
  x : Str
  /-- its own -/
  nm : Str
  ps : List Str
  N : List Str
  params : Arguments
  body : List Stmt
  sc : Scope
def scB (N ps : List Str) (sc : Scope) : Bool :=
  decide (sc.kind = .function) && (!sc.isCoroutine && (!sc.isGenerator && (decide N.Nodup && (decide (N.take ps.length = ps) && ((ps.all fun x => match sc.names.lookup x with | some .local => true | some .cell => true | _ => false) && (sc.names.all fun y => !(y.2 == .free)))))))
theorem scB_ok {N ps : List Str} {sc : Scope} (h : scB N ps sc = true) : FnScope N ps sc := by
  simp only [scB, Bool.and_eq_true, decide_eq_true_eq, Bool.not_eq_true', List.all_eq_true] at h
  obtain ⟨h1, h2, h3, h4, h5, h6, h7⟩ := h
  refine ⟨h1, h2, h3, h4, h5, fun x hx => ?_, fun y hy e => ?_⟩
  · have := h6 x hx
    split at this
    · rename_i e; exact .inl e
    · rename_i e; exact .inr e
    · cases this
  · have := h7 y hy
    rw [e] at this
    cases this
def Tx.cc (d : Tx) : Cc := ⟨d.N, d.sc, (d.sc.names.filter fun p => p.2 == .cell).map (·.1), true, true, none⟩
/-- a def of the IR against a def of the text -/
def fnCk (P : PN) (fn : Fn) (d : Tx) : Bool := decide (fn.np = d.ps.length) && (decide (fn.ns = d.N.length) && (scB d.N d.ps d.sc && ckSs ((ckN P DN).s d.cc) fn.body d.body))
def pgCk (P : PN) (G : Pg) (ds : List Tx) : Bool := decide (P.cl.length = G.anc.length) && decide (G.fs.length = ds.length) && (decide (P.fn = ds.map (·.x)) && (G.fs.zip ds).all fun p => fnCk P p.1 p.2)
/-- what the head tells -/
structure Wd (P : PN) (G : Pg) (ds : List Tx) (C : CI) (K : PySem.W.Frag) (mg : Str → Option Value) : Prop where
  fns : ∀ (f : Nat) (d : Tx), ds[f]? = some d → ∃ fa fd, FunD K d.nm d.nm d.params d.body d.sc [] [] fa fd ∧ mg d.x = some (.ref fa) ∧ Binds K fd d.ps []
  gls : ∀ (g : Nat) (x : Str) (d : D), P.gl[g]? = some x → G.g[g]? = some d → ∃ v u, mg x = some u ∧ RelV v u ∧ ∀ H al, Rep C K H al d v
  blt : ∀ x ∈ bltNames, mg x = none
  xs : Xs C K G.anc
  cl : ∀ n x, P.cl[n]? = some x → mg x = some (C.cls n) ∨ (mg x = none ∧ bootBuiltins x = some (C.cls n) ∧ x ≠ "__name__")
  fl : ∀ n l j k f, n ≠ 0 → G.fld[n]? = some l → l.findIdx? (· == k) = some j → P.fd[k]? = some f → (C.fld n)[j]? = some f ∧ (C.fld n).Nodup ∧ ∃ l', G.anc[n]? = some l'
  mkd : ∀ n x, P.cl[n]? = some x → P.mkl.contains n = true → ∀ (X : Cx), X.K = K → X.mg = mg → MkN C X n x
  xa0 : C.xa = none
  xi0 : C.xi = none
section
variable {P : PN} {G : Pg} {ds : List Tx} {C : CI} {K : PySem.W.Frag} {mg : Str → Option Value} {Pr : Program} {w : World} {base : Heap}
theorem callN_len {k f : Nat} {d : Tx} {vs : List V} {H : Hp} {Q : VK} {E : XK} (hf : ∃ fn, G.fs[f]? = some fn ∧ fn.np = d.ps.length) (h : spF C K (callN G k f) vs H Q E) : vs.length = d.ps.length := by
  obtain ⟨al, hh, xs, rh, rx, p⟩ := h
  obtain ⟨fn, e, en⟩ := hf
  cases k with
  | zero => exact p.elim
  | succ k =>
    unfold callN at p
    rw [e] at p
    dsimp only at p
    split at p
    · rename_i hl
      rw [← rx.length, hl, en]
    · exact p.elim
theorem fn_all (ck : pgCk P G ds = true) (Y : Wd P G ds C K mg) : ∀ (k f : Nat) (d : Tx), ds[f]? = some d → ∀ fa fd, FunD K d.nm d.nm d.params d.body d.sc [] [] fa fd → FnOk Pr w K mg base (L2.CX Pr w) (k + 2) fa fd d.ps (spF C K (callN G k f)) := by
  intro k
  induction k with
  | zero =>
    intro f d hd fa fd F
    have no : ∀ {vs : List V} {H : Hp} {Q : VK} {E : XK}, spF C K (callN G 0 f) vs H Q E → False := fun h => by
      obtain ⟨al, hh, xs, rh, rx, p⟩ := h
      exact p
    exact ⟨fun vs H Q E h => (no h).elim, fun A outer s H args us vs Q E _ _ _ _ h => (no h).elim⟩
  | succ k ih =>
    intro f d hd fa fd F
    simp only [pgCk, Bool.and_eq_true, decide_eq_true_eq] at ck
    obtain ⟨⟨ck0, ck1⟩, ck2, ck3⟩ := ck
    have hlt : f < ds.length := lt_of_at hd
    obtain ⟨fn, hfn⟩ : ∃ fn, G.fs[f]? = some fn := ⟨G.fs[f], List.getElem?_eq_getElem (by omega)⟩
    have hz : (G.fs.zip ds)[f]? = some (fn, d) := by rw [List.getElem?_zip_eq_some]; exact ⟨hfn, hd⟩
    have hc := List.all_eq_true.mp ck3 _ (List.mem_of_getElem? hz)
    simp only [fnCk, Bool.and_eq_true, decide_eq_true_eq] at hc
    obtain ⟨c1, c2, c3, c4⟩ := hc
    have S := scB_ok c3
    refine F.ok (k := k + 2) S (fun vs H Q E h => callN_len (k := k + 1) ⟨fn, hfn, c1⟩ h) fun cdv A outer s H vs Q E hr h => ?_
    let Kv : Kn := ⟨G.g, G.anc, G.fld, callN G k⟩
    obtain ⟨al, hh, xs, rh, rx, p⟩ := h
    refine ⟨sT C K (fun c d _ H' => E c d H') (ssEv (evN Kv DN) fn.body), ?_, ?_⟩
    · refine Snd.ss (Kv := Kv) (Snd.all DN) (m := DN) (c := d.cc) (C := C) (X := cxOf (L2.CX Pr w) Pr w K mg base d.N d.nm d.sc fa cdv A outer s H E) ⟨rfl, S.nd, rfl, S.kind, fun _ _ => rfl, fun _ => rfl, ?_, ?_, Y.blt, fun g x e _ => ?_, fun g x dd e1 e2 => Y.gls g x dd e1 e2, ?_, Y.xs, Y.xi0, Y.cl, ck0, Y.fl, fun _ _ n x e1 e2 => Y.mkd n x e1 e2 _ rfl rfl, fun _ _ => hr.mono (by omega), fun _ => Y.xa0, fun z => (by cases z), fun _ _ => ⟨rfl, rfl⟩⟩ c4
      · exact takes_of (X := cxOf (L2.CX Pr w) Pr w K mg base d.N d.nm d.sc fa cdv A outer s H E) rfl rfl rfl rfl
      · have := hr.un
        show (A.deeper _).units + 65 < cLine
        omega
      · rw [ck2, List.getElem?_map] at e
        obtain ⟨d', e1, rfl⟩ := Option.map_eq_some_iff.mp e
        obtain ⟨fa', fd', F', hm, hb⟩ := Y.fns g d' e1
        exact ⟨k + 2, fa', fd', d'.ps, ih g d' e1 fa' fd' F', hr, hm, F'.kp, hb⟩
      · exact passes_of (X := cxOf (L2.CX Pr w) Pr w K mg base d.N d.nm d.sc fa cdv A outer s H E) rfl
    · unfold callN at p
      rw [hfn] at p
      dsimp only at p
      split at p
      · rename_i hl
        have hvl : vs.length = fn.np := by rw [← rx.length]; exact hl
        refine ⟨al, xs.map some ++ List.replicate (fn.ns - fn.np) none, hh, rh, ?_, exit_ok p rh.len⟩
        have e1 : L2.start d.N vs = vs.map some ++ List.replicate (fn.ns - fn.np) none := by
          unfold L2.start
          rw [c2, hvl]
        rw [e1]
        exact start_rep _ rx
      · exact p.elim
end
end Rw
end

section
set_option Elab.async false
set_option linter.all false
set_option maxRecDepth 100000
set_option maxHeartbeats 4000000
/-! RfH: the head. -/
namespace Rw
open PySem PySem.Spec PyProof.Rows L2
/-- the parameters are bound from the left -/
def BndOk (d : Tx) : Prop := ∀ (kV doc pm : Value) (an : Option Addr) (cdv ct : Value) (us : List Value), us.length = d.ps.length → bindArgs (PySem.W.fnOf d.nm d.nm d.params d.body d.sc .none kV doc pm an cdv ct) ⟨us, []⟩ = pure (d.ps.zip us)
def Tx.dd (d : Tx) : He.DefD := ⟨(d.x, none), d.nm, d.nm, d.params, d.body, d.sc, [], []⟩
/-- the facts that the head tells: the defs' names, the constants, the built-ins' names that are free -/
def gFa : Str × D → He.Fa
  | (x, .int i) => .int x i
  | (x, .str s) => .str x ⟨s.toArray⟩
  | (x, _) => .glo x
def fas (ds : List Tx) (gs : List (Str × D)) : List He.Fa := ds.map (fun d => .glo d.x) ++ (gs.map gFa ++ bltNames.map .free)
/-! ### classes -/
def clsBody (s : Stmt) : List Stmt := match s with
  | .ClassDef (body := b) .. => b
  | _ => []
/-- a class of the text; its __init__, if it has one -/
structure Kl where
  x : Str
  fd : List Str
  anc : List Nat
  ini : Option Tx
def ciOf (ks : List Kl) (K : PySem.W.Frag) : CI := ⟨fun n => match ks[n]? with
  | some k => if n = 0 then .type "ValueError" else .ref (He.ga K k.x)
  | none => .none, fun n => (ks[n]?.map (·.fd)).getD [], none, none⟩
/-- its __init__ as the head sees it -/
def Kl.dd (k : Kl) (t : Tx) : He.DefD := ⟨(k.x, some "__init__"), "__init__", t.nm, t.params, t.body, t.sc, [], []⟩
def Kl.dds (k : Kl) : List He.DefD := match k.ini with
  | some t => [k.dd t]
  | none => []
/-- what the written part must say of a class -/
def clB (ks : List Kl) (K : PySem.W.Frag) (n : Nat) (k : Kl) : Bool := n == 0 || (He.eqO (PySem.W.nsIn K mainGlobals k.x) (some (some (.ref (He.ga K k.x)))) && (oexAll K (He.ga K k.x) && (xfB K (He.ga K k.x) && (excB K (He.ga K k.x) &&
  ((k.fd.all fun f => decide (PySem.W.findIn K (.ref (He.ga K k.x)) f = some none)) &&
  (((List.range ks.length).all fun m => decide (PySem.W.kitOne K (.ref (He.ga K k.x)) ((ciOf ks K).cls m) = some (k.anc.contains m)) && (m == 0 || decide (PySem.W.exmOne K (.ref (He.ga K k.x)) ((ciOf ks K).cls m) = some (k.anc.contains m)))) &&
  (match k.ini with
    | none => true
    | some _ => decide (PySem.W.findIn K (.ref (He.ga K k.x)) "__init__" = some (some (.ref (He.ma K (He.ga K k.x) "__init__")))) && decide (PySem.W.typeIn K (.ref (He.ma K (He.ga K k.x) "__init__")) = some (.type "function")))))))))
def clsB (ks : List Kl) (K : PySem.W.Frag) : Bool := (List.range ks.length).all fun n => match ks[n]? with
  | some k => clB ks K n k
  | none => true
/-- an __init__ of one field -/
def iniB (k : Kl) (t : Tx) : Bool := match t.ps with
  | [s, f] => decide (k.fd = [f]) && (decide (t.N = t.ps) && (scB t.N t.ps t.sc && (initB s f t.body && (nmOk s && (nmOk f && (decide (t.sc.names.lookup s = some .local) && decide (t.sc.names.lookup f = some .local)))))))
  | _ => false
def fldB (fd : List Str) : List (List Nat) → List Kl → Bool
  | [], [] => true
  | l :: ls, k :: ks => decide (l.map (fun i => fd[i]?) = k.fd.map some) && (decide k.fd.Nodup && fldB fd ls ks)
  | _, _ => false
def klCk (P : PN) (G : Pg) (ks : List Kl) : Bool := decide (G.anc = ks.map (·.anc)) && (decide (P.cl = ks.map (·.x)) && (decide (ks.head?.map (·.x) = some "ValueError") && (fldB P.fd G.fld ks && ((ks.all fun k => match k.ini with
  | none => true
  | some t => iniB k t) && (P.mkl.all fun n => n != 0 && ((ks[n]?.bind (·.ini)).isSome))))))
/-- the hook: the facts of classes too -/
def hookX (n : Nat) (fa : List He.Fa) (fn : List He.DefD) (ex : PySem.W.Frag → Bool) : PySem.W.Hook where
  α := He.AlD × Bool
  obs := fun s => (He.obsDG n fa fn s.heap.get?, ex (He.frG s.heap.get? (He.asD s.heap.get? n)))
  val := fun _ => (He.valD fn, true)
  says := fun _ h => ∃ K : PySem.W.Frag, K.In h ∧ He.SaysD fa fn K ∧ ex K = true
  of := fun _ _ e => ⟨_, He.frG_in, congrArg Prod.fst e, congrArg Prod.snd e⟩
  keeps := fun _ _ _ ⟨K, hK, c⟩ k => ⟨K, PySem.W.Frag.In.keeps hK k, c⟩
def obsX (n : Nat) (fa : List He.Fa) (fn : List He.DefD) (ex : PySem.W.Frag → Bool) (g : Addr → Option Obj) : He.AlD × Bool := (He.obsDG n fa fn g, ex (He.frG g (He.asD g n)))
theorem obsX_eq {n : Nat} {fa : List He.Fa} {fn : List He.DefD} {ex : PySem.W.Frag → Bool} {g : Addr → Option Obj} {s : Shared} (h : ∀ a, g a = s.heap.get? a) : obsX n fa fn ex g = (hookX n fa fn ex).obs s := by
  have e : g = s.heap.get? := funext h
  rw [e] <;> rfl
theorem says_def {fa : List He.Fa} {fn : List He.DefD} {K : PySem.W.Frag} (c : He.SaysD fa fn K) {d : He.DefD} (h : d ∈ fn) : ∃ fd, FunD K d.name d.qual d.params d.body d.scope (d.dvs K) (d.kws K) (He.fAd K d.at_) fd := by
  obtain ⟨i, hi, e⟩ := List.getElem_of_mem h
  exact c.def_ i (by rw [List.getElem?_eq_getElem hi, e])
def gOk : Str × D → Bool
  | (_, .int _) => true
  | (_, .str _) => true
  | _ => false
section
variable {ds : List Tx} {gs : List (Str × D)} {K : PySem.W.Frag} {mg : Str → Option Value} {h : Heap}
theorem says_mem {fa : List He.Fa} {fn : List He.DefD} (c : He.SaysD fa fn K) {f : He.Fa} (hf : f ∈ fa) : f.ok K = true := by
  obtain ⟨i, hi, e⟩ := List.getElem_of_mem hf
  exact c.fact i (by rw [List.getElem?_eq_getElem hi, e])
theorem fld_of : ∀ {fd : List Str} {ls : List (List Nat)} {ks : List Kl}, fldB fd ls ks = true → ∀ (n : Nat) (l : List Nat) (k : Kl), ls[n]? = some l → ks[n]? = some k → l.map (fun i => fd[i]?) = k.fd.map some ∧ k.fd.Nodup
  | _, [], _, _, n, l, k, e, _ => by simp at e
  | _, _ :: _, [], h, n, l, k, e, _ => by cases h
  | fd, a :: ls, b :: ks, h, 0, l, k, e1, e2 => by
    simp only [fldB, Bool.and_eq_true, decide_eq_true_eq] at h
    simp at e1 e2
    subst e1 e2
    exact ⟨h.1, h.2.1⟩
  | fd, a :: ls, b :: ks, h, n + 1, l, k, e1, e2 => by
    simp only [fldB, Bool.and_eq_true, decide_eq_true_eq] at h
    exact fld_of h.2.2 n l k (by simpa using e1) (by simpa using e2)
theorem fld_len : ∀ {fd : List Str} {ls : List (List Nat)} {ks : List Kl}, fldB fd ls ks = true → ls.length = ks.length
  | _, [], [], _ => rfl
  | _, [], _ :: _, h => by cases h
  | _, _ :: _, [], h => by cases h
  | fd, a :: ls, b :: ks, h => by
    simp only [fldB, Bool.and_eq_true, decide_eq_true_eq] at h
    simp [fld_len h.2.2]
theorem wd_of (P : PN) (G : Pg) (ks : List Kl) (X : K.In h) (N : h.Ns mainGlobals mg) (c : He.SaysD (fas ds gs) (ds.map Tx.dd ++ ks.flatMap Kl.dds) K) (cc : clsB ks K = true) (kl : klCk P G ks = true) (hb : ∀ d ∈ ds, BndOk d)
    (hi : ∀ k ∈ ks, ∀ t, k.ini = some t → ∀ (kV doc pm : Value) (an : Option Addr) (cdv ct : Value) (us : List Value), us.length = t.ps.length → bindArgs (PySem.W.fnOf "__init__" t.nm t.params t.body t.sc .none kV doc pm an cdv ct) ⟨us, []⟩ = pure (t.ps.zip us))
    (hgl : P.gl = gs.map (·.1)) (hg : G.g = gs.map (·.2)) (gok : gs.all gOk = true) : Wd P G ds (ciOf ks K) K mg := by
  simp only [klCk, Bool.and_eq_true, decide_eq_true_eq] at kl
  obtain ⟨k1, k2, k3, k4, k5, k6⟩ := kl
  have clk : ∀ n k, ks[n]? = some k → n ≠ 0 → clB ks K n k = true := fun n k e h0 => by
    have := List.all_eq_true.mp cc n (List.mem_range.mpr (lt_of_at e))
    rw [e] at this
    exact this
  have blt : ∀ x ∈ bltNames, mg x = none := fun x hx => He.free_ok X N (says_mem c (f := .free x) (List.mem_append_right _ (List.mem_append_right _ (List.mem_map.mpr ⟨x, hx, rfl⟩))))
  have cl0 : ∀ n k, ks[n]? = some k → n ≠ 0 → (ciOf ks K).cls n = .ref (He.ga K k.x) := fun n k e h0 => by
    show (match ks[n]? with | some k => if n = 0 then Value.type "ValueError" else .ref (He.ga K k.x) | none => .none) = _
    rw [e]
    exact if_neg h0
  have fl0 : ∀ n k, ks[n]? = some k → (ciOf ks K).fld n = k.fd := fun n k e => by
    show (ks[n]?.map (·.fd)).getD [] = _
    rw [e]; rfl
  refine ⟨fun f d e => ?_, fun g x d e1 e2 => ?_, blt, ⟨?_, fun n l e h0 => ?_⟩, fun n x e => ?_, fun n l j k f h0 e1 e2 e3 => ?_, fun n x e e2 Y eK eM => ?_, rfl, rfl⟩
  · obtain ⟨fd, F⟩ := c.def_ f (d := d.dd) (by rw [List.getElem?_append_left (by simpa using lt_of_at e), List.getElem?_map, e]; rfl)
    have hm := He.glo_ok X N (says_mem c (f := .glo d.x) (List.mem_append_left _ (List.mem_map.mpr ⟨d, List.mem_of_getElem? e, rfl⟩)))
    exact ⟨He.ga K d.x, fd, F, hm, F.bindsN (ps := d.ps) (hb d (List.mem_of_getElem? e))⟩
  · rw [hgl, List.getElem?_map] at e1
    rw [hg, List.getElem?_map] at e2
    obtain ⟨p, ep, rfl⟩ := Option.map_eq_some_iff.mp e1
    rw [ep] at e2
    cases e2
    have hm := List.mem_of_getElem? ep
    have ok := List.all_eq_true.mp gok p hm
    have fm : gFa p ∈ fas ds gs := List.mem_append_right _ (List.mem_append_left _ (List.mem_map.mpr ⟨p, hm, rfl⟩))
    have fo := says_mem c fm
    obtain ⟨x, d⟩ := p
    cases d with
    | int i =>
      obtain ⟨t, e⟩ := He.int_ok X N (show (He.Fa.int x i).ok K = true from fo)
      exact ⟨.int i, _, e, ⟨t, rfl⟩, fun _ _ => rfl⟩
    | str s =>
      obtain ⟨t, e⟩ := He.str_ok X N (show (He.Fa.str x ⟨s.toArray⟩).ok K = true from fo)
      exact ⟨.str ⟨s.toArray⟩, _, e, ⟨t, rfl⟩, fun _ _ => rfl⟩
    | _ => cases ok
  · cases ek : ks with
    | nil => rw [ek] at k3; cases k3
    | cons k ks' => rfl
  · rw [k1, List.getElem?_map] at e
    obtain ⟨k, ek, rfl⟩ := Option.map_eq_some_iff.mp e
    have q := clk n k ek h0
    unfold clB at q
    simp only [Bool.and_eq_true, Bool.or_eq_true, decide_eq_true_eq, beq_iff_eq, h0, false_or] at q
    obtain ⟨q1, q2, q3, q4, q5, q6, q7⟩ := q
    refine ⟨He.ga K k.x, cl0 n k ek h0, oexAll_ok q2, xfB_ok q3, excB_ok q4, fun f hf => ?_, fun m hm => ?_, fun m hm hm0 => ?_⟩
    · rw [fl0 n k ek] at hf
      exact of_decide_eq_true (List.all_eq_true.mp q5 f hf)
    · rw [k1, List.length_map] at hm
      have := List.all_eq_true.mp q6 m (List.mem_range.mpr hm)
      simp only [Bool.and_eq_true, decide_eq_true_eq] at this
      exact this.1
    · rw [k1, List.length_map] at hm
      have := List.all_eq_true.mp q6 m (List.mem_range.mpr hm)
      simp only [Bool.and_eq_true, Bool.or_eq_true, decide_eq_true_eq, beq_iff_eq, hm0, false_or] at this
      exact this.2
  · rw [k2, List.getElem?_map] at e
    obtain ⟨k, ek, rfl⟩ := Option.map_eq_some_iff.mp e
    by_cases h0 : n = 0
    · subst h0
      have hx : k.x = "ValueError" := by
        rw [List.head?_eq_getElem?, ek] at k3
        exact Option.some.inj k3
      refine .inr ⟨by rw [hx]; exact blt _ (by simp [bltNames]), ?_, by rw [hx]; decide⟩
      rw [hx]
      show bootBuiltins "ValueError" = some (match ks[0]? with | some k => if 0 = 0 then Value.type "ValueError" else .ref (He.ga K k.x) | none => .none)
      rw [ek]
      rfl
    · refine .inl ?_
      rw [cl0 n k ek h0]
      have q := clk n k ek h0
      unfold clB at q
      simp only [Bool.and_eq_true, Bool.or_eq_true, decide_eq_true_eq, beq_iff_eq, h0, false_or] at q
      exact PySem.W.mg_of X N (He.eqO_ok q.1)
  · have hl := fld_len k4
    have hn : n < ks.length := by rw [← hl]; exact lt_of_at e1
    have ek : ks[n]? = some ks[n] := List.getElem?_eq_getElem hn
    obtain ⟨m1, m2⟩ := fld_of k4 n l _ e1 ek
    refine ⟨?_, by rw [fl0 n _ ek]; exact m2, ?_⟩
    · rw [fl0 n _ ek]
      obtain ⟨hj, e4⟩ := List.findIdx?_eq_some_iff_getElem.mp e2
      have e5 : l[j] = k := by simpa using e4.1
      have := congrArg (fun z => z[j]?) m1
      simp only [List.getElem?_map, List.getElem?_eq_getElem hj, e5, Option.map_some, e3] at this
      cases q : (ks[n]).fd[j]? with
      | none => rw [q] at this; cases this
      | some g =>
        rw [q] at this
        simp at this
        rw [this]
    · exact ⟨_, by rw [k1, List.getElem?_map, ek]; rfl⟩
  · have hx := List.all_eq_true.mp k6 n (by simpa using e2)
    simp only [Bool.and_eq_true, bne_iff_ne, ne_eq] at hx
    obtain ⟨h0, hs⟩ := hx
    rw [k2, List.getElem?_map] at e
    obtain ⟨k, ek, rfl⟩ := Option.map_eq_some_iff.mp e
    rw [ek, Option.bind_some] at hs
    obtain ⟨t, et⟩ := Option.isSome_iff_exists.mp hs
    have hk := List.mem_of_getElem? ek
    have q := clk n k ek h0
    unfold clB at q
    simp only [Bool.and_eq_true, Bool.or_eq_true, decide_eq_true_eq, beq_iff_eq, h0, false_or] at q
    obtain ⟨q1, q2, q3, q4, q5, q6, q7⟩ := q
    rw [et] at q7
    dsimp only at q7
    simp only [Bool.and_eq_true, decide_eq_true_eq] at q7
    have ib := List.all_eq_true.mp k5 k hk
    rw [et] at ib
    dsimp only at ib
    unfold iniB at ib
    split at ib
    · rename_i s f eps
      simp only [Bool.and_eq_true, decide_eq_true_eq] at ib
      obtain ⟨i1, i2, i3, i4, i5, i6, i7, i8⟩ := ib
      obtain ⟨fd, F⟩ := says_def c (d := k.dd t) (List.mem_append_right _ (List.mem_flatMap.mpr ⟨k, hk, by unfold Kl.dds; rw [et]; exact List.mem_singleton_self _⟩))
      have F : FunD K "__init__" t.nm t.params t.body t.sc [] [] (He.ma K (He.ga K k.x) "__init__") fd := F
      have hS := scB_ok i3
      rw [i2, eps] at hS
      have hno : PySem.W.findIn K (.ref (He.ga K k.x)) f = some none := of_decide_eq_true (List.all_eq_true.mp q5 f (by rw [i1]; exact List.mem_singleton_self _))
      subst eK eM
      refine ⟨_, _, fd, s, f, cl0 n k ek h0, by rw [fl0 n k ek]; exact i1, oexAll_ok q2, q7.1, q7.2, init_ok F hS (oexAll_ok q2) hno i4 (nmOk_d i5).1 (nmOk_d i5).2 (nmOk_d i6).1 (nmOk_d i6).2 (.inl i7) (.inl i8), ?_, PySem.W.mg_of X N (He.eqO_ok q1)⟩
      have hbi := hi k hk t et
      rw [eps] at hbi
      exact F.bindsN (ps := [s, f]) hbi
    · cases ib
/-- the law's answer -/
def says (G : Pg) (k f : Nat) (ns : List Int) : Prop := ∃ h, callN G k f [.scr ns] ⟨[], 0⟩ = .ok (.bl true, false) h
theorem law_sp {C : CI} {G : Pg} {k f n : Nat} (hl : ∀ ns : List Int, ns.length ≤ n → says G k f ns) (H : Hp) (a : Addr) (ns : List Int) (hn : ns.length ≤ n) (ho : Only H) (hs : SqL K H a (ns.map V.int)) : spF C K (callN G k f) [.ref a] H (fun v _ => v = .bl true) fun _ _ _ => False := by
  obtain ⟨h1, e⟩ := hl ns hn
  have nA : ∀ p, ¬ At (⟨[], []⟩ : AL) p := by
    rintro p (⟨m, z⟩ | z)
    · simp at z
    · cases z
  have rh : RepH C K H ⟨[], []⟩ ⟨[], 0⟩ := { len := rfl, inj := fun i j p a => by simp at a, trk := fun p hp => (nA p hp).elim, nt := fun p hp => (nA p hp).elim, dis := fun p hp => (by cases hp), ob := fun m o e => by simp at e, top := fun m o e => by simp at e }
  refine ⟨⟨[], []⟩, ⟨[], 0⟩, [.scr ns], rh, ⟨.ref a, [], rfl, ⟨a, rfl, ?_⟩, rfl⟩, ?_⟩
  · rcases hs with hs | hs
    · rcases hs with hs | hs
      · rcases ho a with h | ⟨o, xs, h⟩
        · rw [h] at hs; cases hs
        · rw [h] at hs; cases hs
      · exact .inl ⟨hs, nA a⟩
    · exact .inr hs
  · rw [e]
    exact fun al' H' v ex rh' q => q.1
/-- the law, from what the evaluator finds -/
theorem law_walk {l : PySem.W.OpenLaw} {n k : Nat} {q : Program} {loose : List Str} {XP : (Str → Option Value) → Heap → Prop} {d : DefRec} {ds : List Tx} {gs : List (Str × D)} {ks : List Kl} {P : PN} {G : Pg} {i : Nat} {tx : Tx}
    (hn : l.most = some n) (hn2 : n ≤ sizeLine) (hdf : d.params.defaults = []) (hr : Room (k + 2) callerA) (ck : pgCk P G ds = true) (kl : klCk P G ks = true) (hb : ∀ d ∈ ds, BndOk d)
    (hik : ∀ k ∈ ks, ∀ t, k.ini = some t → ∀ (kV doc pm : Value) (an : Option Addr) (cdv ct : Value) (us : List Value), us.length = t.ps.length → bindArgs (PySem.W.fnOf "__init__" t.nm t.params t.body t.sc .none kV doc pm an cdv ct) ⟨us, []⟩ = pure (t.ps.zip us))
    (hgl : P.gl = gs.map (·.1)) (hg : G.g = gs.map (·.2)) (gok : gs.all gOk = true)
    (hi : ds[i]? = some tx) (hx : tx.x = d.name) (hps : tx.ps = [("script" : Str)]) (hl : ∀ ns : List Int, ns.length ≤ n → says G k i ns) :
    PySem.W.WalkO q loose XP (fun _ h => ∃ K : PySem.W.Frag, K.In h ∧ He.SaysD (fas ds gs) (ds.map Tx.dd ++ ks.flatMap Kl.dds) K ∧ clsB ks K = true) l.row.toRowW d [] (fun f vs => PySem.call f vs) := by
  refine Att.attach_call hn hdf fun w s₀ s₁ mg mb fa o pm cd doc a vs ns GG Y ho hd hcd hmg hobj hints hlen hgn => ?_
  obtain ⟨K, KX, c, cc⟩ := Y
  have Yw : Wd P G ds (ciOf ks K) K mg := wd_of P G ks KX GG.T.g c cc kl hb hik hgl hg gok
  obtain ⟨fa', fd, F, hm, hB⟩ := Yw.fns i tx hi
  rw [hx, hmg] at hm
  cases hm
  have bA : ∀ (s : Shared) (u : Value), BindsTo s fd ⟨[u], []⟩ [(("script" : Str), u)] := fun s u => by
    have := FunD.bindsA (ps := tx.ps) F (hb tx (List.mem_of_getElem? hi)) s [u] (by rw [hps]; rfl)
    rw [hps] at this
    exact this
  refine law_call (CX := L2.CX l.prog w) (sp := spF (ciOf ks K) K (callN G k i)) KX GG.T.g GG.T.b GG.T.builtins GG.T.nolimit hgn hobj hints (Nat.le_trans hlen hn2) hr (fun base KI NI => ?_) bA (fun H hO hS => law_sp hl H a ns hlen hO hS) fun H e s' z => ?_
  · have := fn_all (Pr := l.prog) (w := w) (base := base) ck Yw k i tx hi fa fd F
    rw [hps] at this
    exact this
  · obtain ⟨_, _, _, _, _, _, _, _, _, _, _, _, z⟩ := z
    exact z
end
end Rw
end

section
set_option Elab.async false
set_option linter.all false
set_option maxRecDepth 100000
set_option maxHeartbeats 4000000
namespace Rw
namespace k07
open PySem PySem.Spec PyProof.Rows L2
def cl_ValueError : Nat := 0
def cl_WishError : Nat := 1
def cl_BadValue : Nat := 2
def cl_TooLarge : Nat := 3
def cl_NotPossible : Nat := 4
def fd_name : Nat := 0
def fd_what : Nat := 1
def fd_why : Nat := 2
def g_nets_MOST_POINTS : Nat := 0
def g_nets_MOST_ROADS : Nat := 1
def g_nets_MOST_WISHES : Nat := 2
def g_nets_MOST_WIDTH : Nat := 3
def i_nets_is_whole : Nat := 0
def i_nets_is_link : Nat := 1
def i_nets_are_links : Nat := 2
def i_nets_is_net : Nat := 3
def i_nets_is_side : Nat := 4
def i_nets_check_net : Nat := 5
def i_nets_check_wishes : Nat := 6
def i_nets_check_fence : Nat := 7
def i_nets_are_wishes : Nat := 8
def i_nets_is_fence : Nat := 9
def i_nets_fences_of : Nat := 10
def i_nets_crosses : Nat := 11
def i_nets_load_of : Nat := 12
def i_nets_width_of : Nat := 13
def i_nets_room_of : Nat := 14
def i_nets_weak_in : Nat := 15
def i_nets_sum_at : Nat := 16
def i_nets_odd_in : Nat := 17
def i_nets_part_of : Nat := 18
def i_nets_fences : Nat := 19
def i_nets_fence_of : Nat := 20
def i_nets_width : Nat := 21
def i_nets_load : Nat := 22
def i_nets_room : Nat := 23
def i_nets_weak_fences : Nat := 24
def i_nets_tight_fences : Nat := 25
def i_nets_first_weak : Nat := 26
def i_nets_widths_at : Nat := 27
def i_nets_odd_points : Nat := 28
def i_nets_parts : Nat := 29
def i_made_is_order : Nat := 30
def i_made_renamed_links : Nat := 31
def i_made_renamed : Nat := 32
def i_made_joined_links : Nat := 33
def i_made_is_too_great : Nat := 34
def i_made_put_together : Nat := 35
def i_law_stream : Nat := 36
def i_law_next : Nat := 37
def i_law_is_integer : Nat := 38
def i_law_equal : Nat := 39
def i_law_pick : Nat := 40
def i_law_of_net : Nat := 41
def i_law_of_wishes : Nat := 42
def i_law_told : Nat := 43
def i_law : Nat := 44
/-- 0: is_whole(value, low, high) -/
def f_nets_is_whole : Fn := ⟨3, 3, [.ret (.and [(.isi (.v 0) .int), (.not (.isi (.v 0) .bool)), (.chain .le .le (.v 1) (.v 0) (.v 2))])]⟩
/-- 1: is_link(points, value) -/
def f_nets_is_link : Fn := ⟨2, 2, [.ife (.or [(.not (.isi (.v 1) .tuple)), (.cmp .ne (.bi .len [(.v 1)]) (.c (.int 3))), (.not (.call i_nets_is_whole [(.ix (.v 1) (.c (.int 2))), (.c (.int 1)), (.gl g_nets_MOST_WIDTH)]))]) [.ret (.c (.bl false))] [], .ret (.and [(.call i_nets_is_whole [(.ix (.v 1) (.c (.int 0))), (.c (.int 0)), (.bin .sub (.v 0) (.c (.int 1)))]), (.call i_nets_is_whole [(.ix (.v 1) (.c (.int 1))), (.c (.int 0)), (.bin .sub (.v 0) (.c (.int 1)))]), (.cmp .lt (.ix (.v 1) (.c (.int 0))) (.ix (.v 1) (.c (.int 1))))])]⟩
/-- 2: are_links(points, value, most, link, at) -/
def f_nets_are_links : Fn := ⟨3, 5, [.ife (.or [(.not (.isi (.v 1) .tuple)), (.cmp .gt (.bi .len [(.v 1)]) (.v 2)), (.not (.bi .all [(.lc (.nm 3) [3] (.sq (.v 1)) none (.call i_nets_is_link [(.v 0), (.v 3)]))]))]) [.ret (.c (.bl false))] [], .ret (.bi .all [(.lc (.nm 4) [4] (.rg1 (.bin .sub (.bi .len [(.v 1)]) (.c (.int 1)))) none (.cmp .lt (.sl (.ix (.v 1) (.v 4)) none (some (.c (.int 2)))) (.sl (.ix (.v 1) (.bin .add (.v 4) (.c (.int 1)))) none (some (.c (.int 2))))))])]⟩
/-- 3: is_net(value) -/
def f_nets_is_net : Fn := ⟨1, 1, [.ife (.or [(.not (.isi (.v 0) .tuple)), (.cmp .ne (.bi .len [(.v 0)]) (.c (.int 2))), (.not (.call i_nets_is_whole [(.ix (.v 0) (.c (.int 0))), (.c (.int 2)), (.gl g_nets_MOST_POINTS)]))]) [.ret (.c (.bl false))] [], .ret (.call i_nets_are_links [(.ix (.v 0) (.c (.int 0))), (.ix (.v 0) (.c (.int 1))), (.gl g_nets_MOST_ROADS)])]⟩
/-- 4: is_side(points, value, point, at) -/
def f_nets_is_side : Fn := ⟨2, 4, [.ife (.or [(.not (.isi (.v 1) .tuple)), (.not (.chain .lt .lt (.c (.int 0)) (.bi .len [(.v 1)]) (.v 0)))]) [.ret (.c (.bl false))] [], .ife (.not (.bi .all [(.lc (.nm 2) [2] (.sq (.v 1)) none (.call i_nets_is_whole [(.v 2), (.c (.int 0)), (.bin .sub (.v 0) (.c (.int 1)))]))])) [.ret (.c (.bl false))] [], .ret (.bi .all [(.lc (.nm 3) [3] (.rg1 (.bin .sub (.bi .len [(.v 1)]) (.c (.int 1)))) none (.cmp .lt (.ix (.v 1) (.v 3)) (.ix (.v 1) (.bin .add (.v 3) (.c (.int 1))))))])]⟩
/-- 5: check_net(net) -/
def f_nets_check_net : Fn := ⟨1, 1, [.ife (.not (.call i_nets_is_net [(.v 0)])) [.rse cl_BadValue [(.c (.str [110, 101, 116]))]] []]⟩
/-- 6: check_wishes(net, wishes) -/
def f_nets_check_wishes : Fn := ⟨2, 2, [.ex (.call i_nets_check_net [(.v 0)]), .ife (.not (.call i_nets_are_links [(.ix (.v 0) (.c (.int 0))), (.v 1), (.gl g_nets_MOST_WISHES)])) [.rse cl_BadValue [(.c (.str [119, 105, 115, 104, 101, 115]))]] []]⟩
/-- 7: check_fence(net, fence) -/
def f_nets_check_fence : Fn := ⟨2, 2, [.ife (.or [(.not (.call i_nets_is_side [(.ix (.v 0) (.c (.int 0))), (.v 1)])), (.cmp .eq (.ix (.v 1) (.c (.int 0))) (.c (.int 0)))]) [.rse cl_BadValue [(.c (.str [102, 101, 110, 99, 101]))]] []]⟩
/-- 8: are_wishes(net, value) -/
def f_nets_are_wishes : Fn := ⟨2, 2, [.ex (.call i_nets_check_net [(.v 0)]), .ret (.call i_nets_are_links [(.ix (.v 0) (.c (.int 0))), (.v 1), (.gl g_nets_MOST_WISHES)])]⟩
/-- 9: is_fence(net, value) -/
def f_nets_is_fence : Fn := ⟨2, 2, [.ex (.call i_nets_check_net [(.v 0)]), .ret (.and [(.call i_nets_is_side [(.ix (.v 0) (.c (.int 0))), (.v 1)]), (.cmp .ne (.ix (.v 1) (.c (.int 0))) (.c (.int 0)))])]⟩
def b_nets_fences_of_1 : List S := [.asg (.nm 1) (.bin .add (.v 1) (.lc (.nm 3) [3] (.sq (.v 1)) none (.bin .add (.v 3) (.tup [(.v 2)]))))]
/-- 10: fences_of(points, rows, point, row) -/
def f_nets_fences_of : Fn := ⟨1, 4, [.asg (.nm 1) (.lst [(.tup [])]), .for (.nm 2) (.rg2 (.c (.int 1)) (.v 0)) b_nets_fences_of_1, .ret (.sl (.bi .sorted [(.v 1)]) (some (.c (.int 1))) none)]⟩
/-- 11: crosses(fence, link) -/
def f_nets_crosses : Fn := ⟨2, 2, [.ret (.cmp .ne (.cmp .in_ (.ix (.v 1) (.c (.int 0))) (.v 0)) (.cmp .in_ (.ix (.v 1) (.c (.int 1))) (.v 0)))]⟩
/-- 12: load_of(links, fence, link) -/
def f_nets_load_of : Fn := ⟨2, 3, [.ret (.bi .sum [(.lc (.nm 2) [2] (.sq (.v 0)) (some (.call i_nets_crosses [(.v 1), (.v 2)])) (.ix (.v 2) (.c (.int 2))))])]⟩
/-- 13: width_of(net, fence) -/
def f_nets_width_of : Fn := ⟨2, 2, [.ret (.call i_nets_load_of [(.ix (.v 0) (.c (.int 1))), (.v 1)])]⟩
/-- 14: room_of(net, wishes, fence) -/
def f_nets_room_of : Fn := ⟨3, 3, [.ret (.bin .sub (.call i_nets_width_of [(.v 0), (.v 2)]) (.call i_nets_load_of [(.v 1), (.v 2)]))]⟩
def b_nets_weak_in_1 : List S := [.ife (.cmp .lt (.call i_nets_room_of [(.v 0), (.v 1), (.v 2)]) (.c (.int 0))) [.ret (.v 2)] []]
/-- 15: weak_in(net, wishes, fence) -/
def f_nets_weak_in : Fn := ⟨2, 3, [.for (.nm 2) (.sq (.call i_nets_fences_of [(.ix (.v 0) (.c (.int 0)))])) b_nets_weak_in_1, .ret (.c .non)]⟩
/-- 16: sum_at(links, point, link) -/
def f_nets_sum_at : Fn := ⟨2, 3, [.ret (.bi .sum [(.lc (.nm 2) [2] (.sq (.v 0)) (some (.cmp .in_ (.v 1) (.sl (.v 2) none (some (.c (.int 2)))))) (.ix (.v 2) (.c (.int 2))))])]⟩
/-- 17: odd_in(net, wishes, point) -/
def f_nets_odd_in : Fn := ⟨2, 3, [.ret (.lc (.nm 2) [2] (.rg1 (.ix (.v 0) (.c (.int 0)))) (some (.cmp .eq (.bin .mod (.bin .add (.call i_nets_sum_at [(.ix (.v 0) (.c (.int 1))), (.v 2)]) (.call i_nets_sum_at [(.v 1), (.v 2)])) (.c (.int 2))) (.c (.int 1)))) (.v 2))]⟩
def b_nets_part_of_1 : List S := [.ex (.me .extend (.v 2) [(.lc (.nm 5) [5] (.sq (.sl (.v 4) none (some (.c (.int 2))))) (some (.and [(.cmp .nin (.v 5) (.v 2)), (.or [(.cmp .in_ (.ix (.v 4) (.c (.int 0))) (.v 2)), (.cmp .in_ (.ix (.v 4) (.c (.int 1))) (.v 2))])])) (.v 5))])]
def b_nets_part_of_2 : List S := [.for (.nm 4) (.sq (.ix (.v 0) (.c (.int 1)))) b_nets_part_of_1]
/-- 18: part_of(net, first, found, turn, road, end) -/
def f_nets_part_of : Fn := ⟨2, 6, [.asg (.nm 2) (.reg (.lst [(.v 1)])), .for (.nm 3) (.rg1 (.ix (.v 0) (.c (.int 0)))) b_nets_part_of_2, .ret (.bi .tuple [(.bi .sorted [(.v 2)])])]⟩
/-- 19: fences(net) -/
def f_nets_fences : Fn := ⟨1, 1, [.ex (.call i_nets_check_net [(.v 0)]), .ret (.call i_nets_fences_of [(.ix (.v 0) (.c (.int 0)))])]⟩
/-- 20: fence_of(net, some, point) -/
def f_nets_fence_of : Fn := ⟨2, 3, [.ex (.call i_nets_check_net [(.v 0)]), .ife (.not (.call i_nets_is_side [(.ix (.v 0) (.c (.int 0))), (.v 1)])) [.rse cl_BadValue [(.c (.str [115, 111, 109, 101]))]] [], .ret (.ife (.cmp .ne (.ix (.v 1) (.c (.int 0))) (.c (.int 0))) (.v 1) (.bi .tuple [(.lc (.nm 2) [2] (.rg1 (.ix (.v 0) (.c (.int 0)))) (some (.cmp .nin (.v 2) (.v 1))) (.v 2))]))]⟩
/-- 21: width(net, fence) -/
def f_nets_width : Fn := ⟨2, 2, [.ex (.call i_nets_check_net [(.v 0)]), .ex (.call i_nets_check_fence [(.v 0), (.v 1)]), .ret (.call i_nets_width_of [(.v 0), (.v 1)])]⟩
/-- 22: load(net, wishes, fence) -/
def f_nets_load : Fn := ⟨3, 3, [.ex (.call i_nets_check_wishes [(.v 0), (.v 1)]), .ex (.call i_nets_check_fence [(.v 0), (.v 2)]), .ret (.call i_nets_load_of [(.v 1), (.v 2)])]⟩
/-- 23: room(net, wishes, fence) -/
def f_nets_room : Fn := ⟨3, 3, [.ex (.call i_nets_check_wishes [(.v 0), (.v 1)]), .ex (.call i_nets_check_fence [(.v 0), (.v 2)]), .ret (.call i_nets_room_of [(.v 0), (.v 1), (.v 2)])]⟩
/-- 24: weak_fences(net, wishes, fence) -/
def f_nets_weak_fences : Fn := ⟨2, 3, [.ex (.call i_nets_check_wishes [(.v 0), (.v 1)]), .ret (.lc (.nm 2) [2] (.sq (.call i_nets_fences_of [(.ix (.v 0) (.c (.int 0)))])) (some (.cmp .lt (.call i_nets_room_of [(.v 0), (.v 1), (.v 2)]) (.c (.int 0)))) (.v 2))]⟩
/-- 25: tight_fences(net, wishes, fence) -/
def f_nets_tight_fences : Fn := ⟨2, 3, [.ex (.call i_nets_check_wishes [(.v 0), (.v 1)]), .ret (.lc (.nm 2) [2] (.sq (.call i_nets_fences_of [(.ix (.v 0) (.c (.int 0)))])) (some (.cmp .eq (.call i_nets_room_of [(.v 0), (.v 1), (.v 2)]) (.c (.int 0)))) (.v 2))]⟩
/-- 26: first_weak(net, wishes) -/
def f_nets_first_weak : Fn := ⟨2, 2, [.ex (.call i_nets_check_wishes [(.v 0), (.v 1)]), .ret (.call i_nets_weak_in [(.v 0), (.v 1)])]⟩
/-- 27: widths_at(net, point) -/
def f_nets_widths_at : Fn := ⟨1, 2, [.ex (.call i_nets_check_net [(.v 0)]), .ret (.bi .tuple [(.lc (.nm 1) [1] (.rg1 (.ix (.v 0) (.c (.int 0)))) none (.call i_nets_sum_at [(.ix (.v 0) (.c (.int 1))), (.v 1)]))])]⟩
/-- 28: odd_points(net, wishes) -/
def f_nets_odd_points : Fn := ⟨2, 2, [.ex (.call i_nets_check_wishes [(.v 0), (.v 1)]), .ret (.bi .tuple [(.call i_nets_odd_in [(.v 0), (.v 1)])])]⟩
/-- 29: parts(net, found, point, part) -/
def f_nets_parts : Fn := ⟨1, 4, [.ex (.call i_nets_check_net [(.v 0)]), .asg (.nm 1) (.lc (.nm 2) [2] (.rg1 (.ix (.v 0) (.c (.int 0)))) none (.call i_nets_part_of [(.v 0), (.v 2)])), .ret (.bi .tuple [(.lc (.tp [(.nm 2), (.nm 3)]) [2, 3] (.en (.v 1)) (some (.cmp .eq (.ix (.v 3) (.c (.int 0))) (.v 2))) (.v 3))])]⟩
/-- 30: is_order(points, value, point) -/
def f_made_is_order : Fn := ⟨2, 3, [.ife (.or [(.not (.isi (.v 1) .tuple)), (.not (.bi .all [(.lc (.nm 2) [2] (.sq (.v 1)) none (.call i_nets_is_whole [(.v 2), (.c (.int 0)), (.bin .sub (.v 0) (.c (.int 1)))]))]))]) [.ret (.c (.bl false))] [], .ret (.cmp .eq (.bi .sorted [(.v 1)]) (.lrg false (.rg1 (.v 0))))]⟩
/-- 31: renamed_links(links, order, rows, one, other, number, row) -/
def f_made_renamed_links : Fn := ⟨2, 7, [.asg (.nm 2) (.lc (.tp [(.nm 3), (.nm 4), (.nm 5)]) [3, 4, 5] (.sq (.v 0)) none (.tup [(.ix (.v 1) (.v 3)), (.ix (.v 1) (.v 4)), (.v 5)])), .ret (.bi .tuple [(.bi .sorted [(.lc (.nm 6) [6] (.sq (.v 2)) none (.tup [(.bi .minL [(.sl (.v 6) none (some (.c (.int 2))))]), (.bi .maxL [(.sl (.v 6) none (some (.c (.int 2))))]), (.ix (.v 6) (.c (.int 2)))]))])])]⟩
/-- 32: renamed(net, wishes, order) -/
def f_made_renamed : Fn := ⟨3, 3, [.ex (.call i_nets_check_wishes [(.v 0), (.v 1)]), .ife (.not (.call i_made_is_order [(.ix (.v 0) (.c (.int 0))), (.v 2)])) [.rse cl_BadValue [(.c (.str [111, 114, 100, 101, 114]))]] [], .ret (.tup [(.tup [(.ix (.v 0) (.c (.int 0))), (.call i_made_renamed_links [(.ix (.v 0) (.c (.int 1))), (.v 2)])]), (.call i_made_renamed_links [(.v 1), (.v 2)])])]⟩
def b_made_joined_links_1 : List S := [.asg (.nm 5) (.lc (.nm 7) [7] (.sq (.sl (.v 4) none (some (.c (.int 2))))) none (.ife (.cmp .eq (.v 7) (.v 2)) (.v 1) (.v 7))), .asg (.nm 6) (.bi .tuple [(.bi .sorted [(.lc (.nm 7) [7] (.sq (.v 5)) none (.bin .sub (.v 7) (.bi .int [(.cmp .gt (.v 7) (.v 2))])))])]), .ife (.cmp .ne (.ix (.v 6) (.c (.int 0))) (.ix (.v 6) (.c (.int 1)))) [.asg (.ix (.v 3) (.v 6)) (.bin .add (.me .get (.v 3) [(.v 6), (.c (.int 0))]) (.ix (.v 4) (.c (.int 2))))] []]
/-- 33: joined_links(links, one, other, sums, link, ends, pair, end) -/
def f_made_joined_links : Fn := ⟨3, 8, [.asg (.nm 3) (.reg .emT), .for (.nm 4) (.sq (.v 0)) b_made_joined_links_1, .ret (.bi .tuple [(.lc (.nm 6) [6] (.sq (.bi .sortK [(.v 3)])) none (.bin .add (.v 6) (.tup [(.ix (.v 3) (.v 6))])))])]⟩
/-- 34: is_too_great(links, link) -/
def f_made_is_too_great : Fn := ⟨1, 2, [.ret (.bi .any [(.lc (.nm 1) [1] (.sq (.v 0)) none (.cmp .gt (.ix (.v 1) (.c (.int 2))) (.gl g_nets_MOST_WIDTH)))])]⟩
/-- 35: put_together(net, wishes, one, other, roads, left) -/
def f_made_put_together : Fn := ⟨4, 6, [.ex (.call i_nets_check_wishes [(.v 0), (.v 1)]), .ife (.not (.call i_nets_is_whole [(.v 2), (.c (.int 0)), (.bin .sub (.ix (.v 0) (.c (.int 0))) (.c (.int 1)))])) [.rse cl_BadValue [(.c (.str [111, 110, 101]))]] [], .ife (.not (.call i_nets_is_whole [(.v 3), (.bin .add (.v 2) (.c (.int 1))), (.bin .sub (.ix (.v 0) (.c (.int 0))) (.c (.int 1)))])) [.rse cl_BadValue [(.c (.str [111, 116, 104, 101, 114]))]] [], .ife (.cmp .eq (.ix (.v 0) (.c (.int 0))) (.c (.int 2))) [.rse cl_NotPossible [(.c (.str [116, 119, 111]))]] [], .asg (.nm 4) (.call i_made_joined_links [(.ix (.v 0) (.c (.int 1))), (.v 2), (.v 3)]), .ife (.call i_made_is_too_great [(.v 4)]) [.rse cl_TooLarge [(.c (.str [119, 105, 100, 116, 104]))]] [], .asg (.nm 5) (.call i_made_joined_links [(.v 1), (.v 2), (.v 3)]), .ife (.call i_made_is_too_great [(.v 5)]) [.rse cl_TooLarge [(.c (.str [97, 109, 111, 117, 110, 116]))]] [], .ret (.tup [(.tup [(.bin .sub (.ix (.v 0) (.c (.int 0))) (.c (.int 1))), (.v 4)]), (.v 5)])]⟩
/-- 36: _law_stream(script) -/
def f_law_stream : Fn := ⟨1, 1, [.ret (.lst [(.bi .list [(.v 0)]), (.c (.int 0)), (.c (.int 0))])]⟩
/-- 37: _law_next(stream, many, k, cell, digit) -/
def f_law_next : Fn := ⟨2, 5, [.ife (.cmp .eq (.ix (.v 0) (.c (.int 1))) (.c (.int 0))) [.asg (.nm 2) (.ix (.v 0) (.c (.int 2))), .asg (.nm 3) (.bin .add (.c (.int 7)) (.v 2)), .ife (.cmp .lt (.v 2) (.bi .len [(.ix (.v 0) (.c (.int 0)))])) [.asg (.nm 3) (.bi .abs [(.ix (.ix (.v 0) (.c (.int 0))) (.v 2))])] [], .ife (.cmp .lt (.v 3) (.bin .pow (.c (.int 10)) (.c (.int 18)))) [.asg (.nm 3) (.bin .mod (.bi .int [(.bin .add (.bin .add (.bin .mul (.v 3) (.c (.int 48271))) (.bin .mul (.v 2) (.c (.int 69621)))) (.c (.int 11)))]) (.c (.int 2147483647))), .asg (.nm 3) (.bin .add (.bin .mul (.bin .mod (.bi .int [(.bin .add (.bin .mul (.v 3) (.c (.int 16807))) (.c (.int 13)))]) (.c (.int 2147483647))) (.c (.int 65537))) (.v 3))] [], .asg (.ix (.v 0) (.c (.int 1))) (.v 3), .asg (.ix (.v 0) (.c (.int 2))) (.bin .add (.v 2) (.c (.int 1)))] [], .asg (.nm 4) (.bin .mod (.bi .int [(.ix (.v 0) (.c (.int 1)))]) (.v 1)), .asg (.ix (.v 0) (.c (.int 1))) (.bin .fdiv (.ix (.v 0) (.c (.int 1))) (.v 1)), .ret (.v 4)]⟩
/-- 38: _law_is_integer(actual) -/
def f_law_is_integer : Fn := ⟨1, 1, [.ret (.and [(.isi (.v 0) .int), (.not (.isi (.v 0) .bool))])]⟩
/-- 39: _law_equal(actual, due, at) -/
def f_law_equal : Fn := ⟨2, 3, [.ife (.cmp .is_ (.v 1) (.c .non)) [.ret (.cmp .is_ (.v 0) (.c .non))] [], .ife (.isi (.v 1) .bool) [.ret (.and [(.isi (.v 0) .bool), (.cmp .eq (.v 0) (.v 1))])] [], .ife (.isi (.v 1) .int) [.ret (.and [(.call i_law_is_integer [(.v 0)]), (.cmp .eq (.v 0) (.v 1))])] [], .ife (.isi (.v 1) .str) [.ret (.and [(.isi (.v 0) .str), (.cmp .eq (.v 0) (.v 1))])] [], .ife (.and [(.isi (.v 1) .tuple), (.not (.isi (.v 0) .tuple))]) [.ret (.c (.bl false))] [], .ife (.and [(.isi (.v 1) .list), (.not (.isi (.v 0) .list))]) [.ret (.c (.bl false))] [], .ife (.cmp .ne (.bi .len [(.v 0)]) (.bi .len [(.v 1)])) [.ret (.c (.bl false))] [], .ret (.bi .all [(.lc (.nm 2) [2] (.rg1 (.bi .len [(.v 1)])) none (.call i_law_equal [(.ix (.v 0) (.v 2)), (.ix (.v 1) (.v 2))]))])]⟩
/-- 40: _law_pick(stream, rows) -/
def f_law_pick : Fn := ⟨2, 2, [.ret (.ix (.v 1) (.call i_law_next [(.v 0), (.bi .len [(.v 1)])]))]⟩
/-- 41: _law_of_net(word, net) -/
def f_law_of_net : Fn := ⟨2, 2, [.ife (.cmp .eq (.v 0) (.c (.str [102, 101, 110, 99, 101, 115]))) [.ret (.call i_nets_fences [(.v 1)])] [], .ife (.cmp .eq (.v 0) (.c (.str [119, 105, 100, 116, 104, 115]))) [.ret (.call i_nets_widths_at [(.v 1)])] [], .ife (.cmp .eq (.v 0) (.c (.str [112, 97, 114, 116, 115]))) [.ret (.call i_nets_parts [(.v 1)])] [], .ret (.ife (.cmp .eq (.v 0) (.c (.str [97, 114, 101]))) (.call i_nets_are_wishes [(.v 1), (.c .non)]) (.call i_nets_is_fence [(.v 1), (.c .non)]))]⟩
/-- 42: _law_of_wishes(word, parts_of_call, net, wishes) -/
def f_law_of_wishes : Fn := ⟨2, 4, [.asg (.tp [(.nm 2), (.nm 3)]) (.sl (.v 1) none (some (.c (.int 2)))), .ife (.cmp .eq (.v 0) (.c (.str [119, 101, 97, 107]))) [.ret (.call i_nets_weak_fences [(.v 2), (.v 3)])] [], .ife (.cmp .eq (.v 0) (.c (.str [116, 105, 103, 104, 116]))) [.ret (.call i_nets_tight_fences [(.v 2), (.v 3)])] [], .ife (.cmp .eq (.v 0) (.c (.str [102, 105, 114, 115, 116]))) [.ret (.call i_nets_first_weak [(.v 2), (.v 3)])] [], .ife (.cmp .eq (.v 0) (.c (.str [111, 100, 100]))) [.ret (.call i_nets_odd_points [(.v 2), (.v 3)])] [], .ife (.cmp .eq (.v 0) (.c (.str [108, 111, 97, 100]))) [.ret (.call i_nets_load [(.v 2), (.v 3), (.ix (.v 1) (.c (.int 2)))])] [], .ife (.cmp .eq (.v 0) (.c (.str [114, 111, 111, 109]))) [.ret (.call i_nets_room [(.v 2), (.v 3), (.ix (.v 1) (.c (.int 2)))])] [], .ife (.cmp .eq (.v 0) (.c (.str [114, 101, 110, 97, 109, 101, 100]))) [.ret (.call i_made_renamed [(.v 2), (.v 3), (.ix (.v 1) (.c (.int 2)))])] [], .ret (.call i_made_put_together [(.v 2), (.v 3), (.ix (.v 1) (.c (.int 2))), (.ix (.v 1) (.c (.int 3)))])]⟩
/-- 43: _law_told(word, parts_of_call, problem) -/
def f_law_told : Fn := ⟨2, 3, [.try [.ife (.cmp .eq (.bi .len [(.v 1)]) (.c (.int 1))) [.ex (.call i_law_of_net [(.v 0), (.ix (.v 1) (.c (.int 0)))])] [.ife (.cmp .eq (.v 0) (.c (.str [119, 105, 100, 116, 104]))) [.ex (.call i_nets_width [(.ix (.v 1) (.c (.int 0))), (.ix (.v 1) (.c (.int 1)))])] [.ife (.cmp .eq (.v 0) (.c (.str [115, 111, 109, 101]))) [.ex (.call i_nets_fence_of [(.ix (.v 1) (.c (.int 0))), (.ix (.v 1) (.c (.int 1)))])] [.ex (.call i_law_of_wishes [(.v 0), (.v 1)])]]]] [.mk cl_WishError (some 2) [.ret (.ife (.and [(.xi 2 cl_BadValue), (.xi 2 cl_ValueError)]) (.xf 2 fd_name) (.c (.str [110, 111])))]], .ret (.c (.str []))]⟩
def b_law_1 : List S := [.asg (.nm 19) (.lc (.nm 21) [21] (.sq (.v 16)) none (.call i_law_pick [(.v 1), (.v 21)])), .asg (.nm 20) (.bin .add (.bin .add (.sl (.v 15) none (some (.v 18))) (.lst [(.ix (.v 19) (.v 18))])) (.sl (.v 15) (some (.bin .add (.v 18) (.c (.int 1)))) none)), .ife (.or [(.cmp .ne (.call i_law_told [(.v 13), (.v 20)]) (.ix (.v 17) (.v 18))), (.cmp .ne (.call i_law_told [(.v 13), (.bin .add (.sl (.v 15) none (some (.v 18))) (.sl (.v 19) (some (.v 18)) none))]) (.ix (.v 17) (.v 18)))]) [.ret (.c (.bl false))] []]
def b_law_2 : List S := [.ife (.cmp .ne (.call i_law_told [(.v 13), (.v 15)]) (.c (.str []))) [.ret (.c (.bl false))] [], .for (.nm 18) (.rg1 (.bi .len [(.v 15)])) b_law_1]
def r_law_1 : List S := [.asg (.nm 22) (.tup [(.c (.int 2)), (.tup [(.tup [(.c (.int 0)), (.c (.int 1)), (.c (.int 1))])])]), .asg (.nm 23) (.reg (.lc (.nm 24) [24] (.sq (.lst [(.c (.int 1)), (.c (.int 2)), (.c (.int 0)), (.c .non)])) none (.call i_law_told [(.c (.str [116, 111, 103, 101, 116, 104, 101, 114])), (.lst [(.v 22), (.tup []), (.c (.int 0)), (.v 24)])]))), .asg (.nm 23) (.reg (.bin .add (.v 23) (.lc (.tp [(.nm 25), (.nm 24)]) [25, 24] (.sq (.lst [(.tup [(.c (.int 3)), (.c (.int 3))]), (.tup [(.c (.int 3)), (.c (.int 4))]), (.tup [(.c (.int 1)), (.c (.int 0))])])) none (.call i_law_told [(.c (.str [116, 111, 103, 101, 116, 104, 101, 114])), (.lst [(.v 4), (.v 3), (.v 25), (.v 24)])])))), .ex (.me .append (.v 23) [(.call i_law_told [(.c (.str [114, 101, 110, 97, 109, 101, 100])), (.lst [(.v 4), (.v 3), (.tup [(.c (.int 0)), (.c (.int 1)), (.c (.int 2)), (.c (.int 2))])])])]), .asg (.nm 26) (.tup [(.c (.int 3)), (.tup [(.tup [(.c (.int 0)), (.c (.int 1)), (.c (.int 6))]), (.tup [(.c (.int 0)), (.c (.int 2)), (.c (.int 6))])])]), .asg (.nm 23) (.reg (.bin .add (.v 23) (.lst [(.call i_law_told [(.c (.str [116, 111, 103, 101, 116, 104, 101, 114])), (.lst [(.v 22), (.c .non), (.c (.int 0)), (.c (.int 1))])]), (.call i_law_told [(.c (.str [116, 111, 103, 101, 116, 104, 101, 114])), (.lst [(.v 22), (.tup []), (.neg (.c (.int 1))), (.c (.int 1))])])]))), .asg (.nm 23) (.reg (.bin .add (.v 23) (.lc (.nm 24) [24] (.sq (.lst [(.c (.int 2)), (.c (.int 3))])) none (.call i_law_told [(.c (.str [116, 111, 103, 101, 116, 104, 101, 114])), (.lst [(.v 26), (.tup []), (.c (.int 1)), (.v 24)])])))), .ret (.cmp .eq (.v 23) (.bin .add (.bin .add (.lst [(.c (.str [110, 111]))]) (.bin .mul (.lst [(.c (.str [111, 116, 104, 101, 114]))]) (.c (.int 6)))) (.lst [(.c (.str [111, 114, 100, 101, 114])), (.c (.str [119, 105, 115, 104, 101, 115])), (.c (.str [111, 110, 101])), (.c (.str [110, 111])), (.c (.str [111, 116, 104, 101, 114]))])))]
/-- 44: law(script, stream, roads, wishes, net, bad_net, bad_wishes, bad_fence, bad_some, bad_order, bad_one, bad_other, rows, word, both, good, bad, names, k, wrong, alone, options, two, told, other, one, great) -/
def f_law : Fn := ⟨1, 27, (.asg (.nm 1) (.reg (.call i_law_stream [(.v 0)])) :: .asg (.nm 2) (.tup [(.tup [(.c (.int 0)), (.c (.int 1)), (.c (.int 2))]), (.tup [(.c (.int 0)), (.c (.int 3)), (.c (.int 1))]), (.tup [(.c (.int 1)), (.c (.int 2)), (.c (.int 6))])]) :: .asg (.nm 3) (.tup [(.tup [(.c (.int 0)), (.c (.int 2)), (.c (.int 1))]), (.tup [(.c (.int 1)), (.c (.int 3)), (.c (.int 6))])]) :: .asg (.nm 4) (.tup [(.c (.int 4)), (.v 2)]) :: .asg (.nm 5) (.lst [(.c .non), (.lst [(.c (.int 4)), (.v 2)]), (.tup [(.c (.int 4))]), (.tup [(.c (.int 4)), (.bi .list [(.v 2)])]), (.tup [(.c (.int 4)), (.rev (.v 2))]), (.tup [(.c (.int 4)), (.bin .add (.v 2) (.tup [(.tup [(.c (.int 2)), (.c (.int 4)), (.c (.int 1))])]))]), (.tup [(.c (.int 4)), (.tup [(.tup [(.c (.int 1)), (.c (.int 0)), (.c (.int 1))])])]), (.tup [(.c (.int 4)), (.tup [(.tup [(.c (.int 0)), (.c (.int 1)), (.c (.int 0))])])]), (.tup [(.c (.int 4)), (.tup [(.tup [(.c (.int 0)), (.c (.int 1)), (.c (.int 7))])])]), (.tup [(.c (.int 4)), (.tup [(.tup [(.c (.int 0)), (.c (.int 1)), (.c (.bl true))])])]), (.tup [(.c (.int 4)), (.tup [(.tup [(.c (.int 0)), (.c (.int 1)), (.c (.int 1))]), (.tup [(.c (.int 0)), (.c (.int 1)), (.c (.int 2))])])]), (.tup [(.c (.int 1)), (.tup [])]), (.tup [(.c (.int 8)), (.tup [])]), (.c (.int 0)), (.tup [(.c (.int 4)), (.c .non)])]) :: .asg (.nm 6) (.lst [(.c .non), (.bi .list [(.v 3)]), (.rev (.v 3)), (.bin .add (.v 3) (.tup [(.tup [(.c (.int 2)), (.c (.int 4)), (.c (.int 1))])])), (.tup [(.tup [(.c (.int 2)), (.c (.int 0)), (.c (.int 1))])]), (.tup [(.tup [(.c (.int 0)), (.c (.int 2)), (.c (.int 0))])]), (.tup [(.tup [(.c (.int 0)), (.c (.int 2)), (.c (.int 7))])]), (.tup [(.tup [(.c (.int 0)), (.c (.int 2))])]), (.tup [(.tup [(.c (.int 0)), (.c (.int 2)), (.c (.int 1))]), (.tup [(.c (.int 0)), (.c (.int 2)), (.c (.int 3))])]), (.tup [(.tup [(.c (.int 0)), (.c (.int 0)), (.c (.int 1))])]), (.tup [(.tup [(.neg (.c (.int 1))), (.c (.int 2)), (.c (.int 1))])]), (.c (.int 0)), (.c (.str [])), (.tup [(.c .non)])]) :: .asg (.nm 7) (.lst [(.c .non), (.lst [(.c (.int 1))]), (.tup []), (.tup [(.c (.int 0))]), (.tup [(.c (.int 0)), (.c (.int 1))]), (.tup [(.c (.int 2)), (.c (.int 1))]), (.tup [(.c (.int 1)), (.c (.int 1))]), (.tup [(.c (.int 4))]), (.tup [(.neg (.c (.int 1)))]), (.tup [(.c (.bl true))]), (.tup [(.c (.str [49]))]), (.tup [(.c (.int 1)), (.c (.int 2)), (.c (.int 3)), (.c (.int 4))]), (.c (.int 1))]) :: .asg (.nm 8) (.lst [(.c .non), (.lst [(.c (.int 0))]), (.tup []), (.tup [(.c (.int 0)), (.c (.int 1)), (.c (.int 2)), (.c (.int 3))]), (.tup [(.c (.int 2)), (.c (.int 1))]), (.tup [(.c (.int 1)), (.c (.int 1))]), (.tup [(.c (.int 4))]), (.tup [(.neg (.c (.int 1)))]), (.tup [(.c (.bl true))]), (.tup [(.c (.str [49]))]), (.c (.int 0))]) :: .asg (.nm 9) (.lst [(.c .non), (.lst [(.c (.int 0)), (.c (.int 1)), (.c (.int 2)), (.c (.int 3))]), (.tup [(.c (.int 0)), (.c (.int 1)), (.c (.int 2))]), (.tup [(.c (.int 0)), (.c (.int 1)), (.c (.int 2)), (.c (.int 2))]), (.tup [(.c (.int 0)), (.c (.int 1)), (.c (.int 2)), (.c (.int 4))]), (.tup [(.c (.int 0)), (.c (.bl true)), (.c (.int 2)), (.c (.int 3))]), (.tup [(.c (.int 0)), (.c (.int 1)), (.c (.int 2)), (.c (.int 3)), (.c (.int 4))]), (.c (.int 0)), (.tup [(.c (.str [48])), (.c (.int 1)), (.c (.int 2)), (.c (.int 3))])]) :: .asg (.nm 10) (.lst [(.neg (.c (.int 1))), (.c (.int 4)), (.c .non), (.c (.bl true)), (.c (.str [48])), (.tup [(.c (.int 0))])]) :: .asg (.nm 11) (.lst [(.c (.int 0)), (.c (.int 1)), (.c (.int 4)), (.neg (.c (.int 1))), (.c .non), (.c (.bl true)), (.c (.str [50]))]) :: .asg (.nm 12) (.reg (.lc (.nm 13) [13] (.sq (.lst [(.c (.str [102, 101, 110, 99, 101, 115])), (.c (.str [119, 105, 100, 116, 104, 115])), (.c (.str [112, 97, 114, 116, 115])), (.c (.str [97, 114, 101])), (.c (.str [105, 115]))])) none (.tup [(.v 13), (.lst [(.v 4)]), (.lst [(.v 5)]), (.lst [(.c (.str [110, 101, 116]))])]))) :: .ex (.me .append (.v 12) [(.tup [(.c (.str [119, 105, 100, 116, 104])), (.lst [(.v 4), (.tup [(.c (.int 1)), (.c (.int 3))])]), (.lst [(.v 5), (.v 7)]), (.lst [(.c (.str [110, 101, 116])), (.c (.str [102, 101, 110, 99, 101]))])])]) :: .ex (.me .append (.v 12) [(.tup [(.c (.str [115, 111, 109, 101])), (.lst [(.v 4), (.tup [(.c (.int 0)), (.c (.int 3))])]), (.lst [(.v 5), (.v 8)]), (.lst [(.c (.str [110, 101, 116])), (.c (.str [115, 111, 109, 101]))])])]) :: .asg (.nm 14) (.lst [(.v 5), (.v 6)]) :: .ex (.me .extend (.v 12) [(.lc (.nm 13) [13] (.sq (.lst [(.c (.str [119, 101, 97, 107])), (.c (.str [116, 105, 103, 104, 116])), (.c (.str [102, 105, 114, 115, 116])), (.c (.str [111, 100, 100]))])) none (.tup [(.v 13), (.lst [(.v 4), (.v 3)]), (.v 14), (.lst [(.c (.str [110, 101, 116])), (.c (.str [119, 105, 115, 104, 101, 115]))])]))]) :: .ex (.me .extend (.v 12) [(.lc (.nm 13) [13] (.sq (.lst [(.c (.str [108, 111, 97, 100])), (.c (.str [114, 111, 111, 109]))])) none (.tup [(.v 13), (.lst [(.v 4), (.v 3), (.tup [(.c (.int 2))])]), (.bin .add (.v 14) (.lst [(.v 7)])), (.lst [(.c (.str [110, 101, 116])), (.c (.str [119, 105, 115, 104, 101, 115])), (.c (.str [102, 101, 110, 99, 101]))])]))]) :: .ex (.me .append (.v 12) [(.tup [(.c (.str [114, 101, 110, 97, 109, 101, 100])), (.lst [(.v 4), (.v 3), (.tup [(.c (.int 3)), (.c (.int 1)), (.c (.int 0)), (.c (.int 2))])]), (.bin .add (.v 14) (.lst [(.v 9)])), (.lst [(.c (.str [110, 101, 116])), (.c (.str [119, 105, 115, 104, 101, 115])), (.c (.str [111, 114, 100, 101, 114]))])])]) :: .ex (.me .append (.v 12) [(.tup [(.c (.str [116, 111, 103, 101, 116, 104, 101, 114])), (.lst [(.v 4), (.v 3), (.c (.int 1)), (.c (.int 3))]), (.bin .add (.v 14) (.lst [(.v 10), (.v 11)])), (.lst [(.c (.str [110, 101, 116])), (.c (.str [119, 105, 115, 104, 101, 115])), (.c (.str [111, 110, 101])), (.c (.str [111, 116, 104, 101, 114]))])])]) :: .fz 12 :: .for (.tp [(.nm 13), (.nm 15), (.nm 16), (.nm 17)]) (.sq (.v 12)) b_law_2 :: r_law_1)⟩
def pg : Pg where
  g := [(.int 7), (.int 15), (.int 10), (.int 6)]
  anc := [[0], [1, 0], [2, 1, 0], [3, 1, 0], [4, 1, 0]]
  fld := [[], [], [0], [1], [2]]
  fs := [f_nets_is_whole, f_nets_is_link, f_nets_are_links, f_nets_is_net, f_nets_is_side, f_nets_check_net, f_nets_check_wishes, f_nets_check_fence, f_nets_are_wishes, f_nets_is_fence, f_nets_fences_of, f_nets_crosses, f_nets_load_of, f_nets_width_of, f_nets_room_of, f_nets_weak_in, f_nets_sum_at, f_nets_odd_in, f_nets_part_of, f_nets_fences, f_nets_fence_of, f_nets_width, f_nets_load, f_nets_room, f_nets_weak_fences, f_nets_tight_fences, f_nets_first_weak, f_nets_widths_at, f_nets_odd_points, f_nets_parts, f_made_is_order, f_made_renamed_links, f_made_renamed, f_made_joined_links, f_made_is_too_great, f_made_put_together, f_law_stream, f_law_next, f_law_is_integer, f_law_equal, f_law_pick, f_law_of_net, f_law_of_wishes, f_law_told, f_law]
@[simp] theorem g_nets_MOST_POINTS_at : pg.g[g_nets_MOST_POINTS]? = some (.int 7) := rfl
@[simp] theorem g_nets_MOST_ROADS_at : pg.g[g_nets_MOST_ROADS]? = some (.int 15) := rfl
@[simp] theorem g_nets_MOST_WISHES_at : pg.g[g_nets_MOST_WISHES]? = some (.int 10) := rfl
@[simp] theorem g_nets_MOST_WIDTH_at : pg.g[g_nets_MOST_WIDTH]? = some (.int 6) := rfl
theorem u_nets_is_whole (k : Nat) (ds : List D) (h : AH) : callN pg (k + 1) i_nets_is_whole ds h = if ds.length = 3 then exitF h.os.length (ssEv (evN ⟨pg.g, pg.anc, pg.fld, callN pg k⟩ DN) f_nets_is_whole.body (ds.map some ++ List.replicate 0 none) h) else .bad := rfl
theorem u_nets_is_link (k : Nat) (ds : List D) (h : AH) : callN pg (k + 1) i_nets_is_link ds h = if ds.length = 2 then exitF h.os.length (ssEv (evN ⟨pg.g, pg.anc, pg.fld, callN pg k⟩ DN) f_nets_is_link.body (ds.map some ++ List.replicate 0 none) h) else .bad := rfl
theorem u_nets_are_links (k : Nat) (ds : List D) (h : AH) : callN pg (k + 1) i_nets_are_links ds h = if ds.length = 3 then exitF h.os.length (ssEv (evN ⟨pg.g, pg.anc, pg.fld, callN pg k⟩ DN) f_nets_are_links.body (ds.map some ++ List.replicate 2 none) h) else .bad := rfl
theorem u_nets_is_net (k : Nat) (ds : List D) (h : AH) : callN pg (k + 1) i_nets_is_net ds h = if ds.length = 1 then exitF h.os.length (ssEv (evN ⟨pg.g, pg.anc, pg.fld, callN pg k⟩ DN) f_nets_is_net.body (ds.map some ++ List.replicate 0 none) h) else .bad := rfl
theorem u_nets_is_side (k : Nat) (ds : List D) (h : AH) : callN pg (k + 1) i_nets_is_side ds h = if ds.length = 2 then exitF h.os.length (ssEv (evN ⟨pg.g, pg.anc, pg.fld, callN pg k⟩ DN) f_nets_is_side.body (ds.map some ++ List.replicate 2 none) h) else .bad := rfl
theorem u_nets_check_net (k : Nat) (ds : List D) (h : AH) : callN pg (k + 1) i_nets_check_net ds h = if ds.length = 1 then exitF h.os.length (ssEv (evN ⟨pg.g, pg.anc, pg.fld, callN pg k⟩ DN) f_nets_check_net.body (ds.map some ++ List.replicate 0 none) h) else .bad := rfl
theorem u_nets_check_wishes (k : Nat) (ds : List D) (h : AH) : callN pg (k + 1) i_nets_check_wishes ds h = if ds.length = 2 then exitF h.os.length (ssEv (evN ⟨pg.g, pg.anc, pg.fld, callN pg k⟩ DN) f_nets_check_wishes.body (ds.map some ++ List.replicate 0 none) h) else .bad := rfl
theorem u_nets_check_fence (k : Nat) (ds : List D) (h : AH) : callN pg (k + 1) i_nets_check_fence ds h = if ds.length = 2 then exitF h.os.length (ssEv (evN ⟨pg.g, pg.anc, pg.fld, callN pg k⟩ DN) f_nets_check_fence.body (ds.map some ++ List.replicate 0 none) h) else .bad := rfl
theorem u_nets_are_wishes (k : Nat) (ds : List D) (h : AH) : callN pg (k + 1) i_nets_are_wishes ds h = if ds.length = 2 then exitF h.os.length (ssEv (evN ⟨pg.g, pg.anc, pg.fld, callN pg k⟩ DN) f_nets_are_wishes.body (ds.map some ++ List.replicate 0 none) h) else .bad := rfl
theorem u_nets_is_fence (k : Nat) (ds : List D) (h : AH) : callN pg (k + 1) i_nets_is_fence ds h = if ds.length = 2 then exitF h.os.length (ssEv (evN ⟨pg.g, pg.anc, pg.fld, callN pg k⟩ DN) f_nets_is_fence.body (ds.map some ++ List.replicate 0 none) h) else .bad := rfl
theorem u_nets_fences_of (k : Nat) (ds : List D) (h : AH) : callN pg (k + 1) i_nets_fences_of ds h = if ds.length = 1 then exitF h.os.length (ssEv (evN ⟨pg.g, pg.anc, pg.fld, callN pg k⟩ DN) f_nets_fences_of.body (ds.map some ++ List.replicate 3 none) h) else .bad := rfl
theorem u_nets_crosses (k : Nat) (ds : List D) (h : AH) : callN pg (k + 1) i_nets_crosses ds h = if ds.length = 2 then exitF h.os.length (ssEv (evN ⟨pg.g, pg.anc, pg.fld, callN pg k⟩ DN) f_nets_crosses.body (ds.map some ++ List.replicate 0 none) h) else .bad := rfl
theorem u_nets_load_of (k : Nat) (ds : List D) (h : AH) : callN pg (k + 1) i_nets_load_of ds h = if ds.length = 2 then exitF h.os.length (ssEv (evN ⟨pg.g, pg.anc, pg.fld, callN pg k⟩ DN) f_nets_load_of.body (ds.map some ++ List.replicate 1 none) h) else .bad := rfl
theorem u_nets_width_of (k : Nat) (ds : List D) (h : AH) : callN pg (k + 1) i_nets_width_of ds h = if ds.length = 2 then exitF h.os.length (ssEv (evN ⟨pg.g, pg.anc, pg.fld, callN pg k⟩ DN) f_nets_width_of.body (ds.map some ++ List.replicate 0 none) h) else .bad := rfl
theorem u_nets_room_of (k : Nat) (ds : List D) (h : AH) : callN pg (k + 1) i_nets_room_of ds h = if ds.length = 3 then exitF h.os.length (ssEv (evN ⟨pg.g, pg.anc, pg.fld, callN pg k⟩ DN) f_nets_room_of.body (ds.map some ++ List.replicate 0 none) h) else .bad := rfl
theorem u_nets_weak_in (k : Nat) (ds : List D) (h : AH) : callN pg (k + 1) i_nets_weak_in ds h = if ds.length = 2 then exitF h.os.length (ssEv (evN ⟨pg.g, pg.anc, pg.fld, callN pg k⟩ DN) f_nets_weak_in.body (ds.map some ++ List.replicate 1 none) h) else .bad := rfl
theorem u_nets_sum_at (k : Nat) (ds : List D) (h : AH) : callN pg (k + 1) i_nets_sum_at ds h = if ds.length = 2 then exitF h.os.length (ssEv (evN ⟨pg.g, pg.anc, pg.fld, callN pg k⟩ DN) f_nets_sum_at.body (ds.map some ++ List.replicate 1 none) h) else .bad := rfl
theorem u_nets_odd_in (k : Nat) (ds : List D) (h : AH) : callN pg (k + 1) i_nets_odd_in ds h = if ds.length = 2 then exitF h.os.length (ssEv (evN ⟨pg.g, pg.anc, pg.fld, callN pg k⟩ DN) f_nets_odd_in.body (ds.map some ++ List.replicate 1 none) h) else .bad := rfl
theorem u_nets_part_of (k : Nat) (ds : List D) (h : AH) : callN pg (k + 1) i_nets_part_of ds h = if ds.length = 2 then exitF h.os.length (ssEv (evN ⟨pg.g, pg.anc, pg.fld, callN pg k⟩ DN) f_nets_part_of.body (ds.map some ++ List.replicate 4 none) h) else .bad := rfl
theorem u_nets_fences (k : Nat) (ds : List D) (h : AH) : callN pg (k + 1) i_nets_fences ds h = if ds.length = 1 then exitF h.os.length (ssEv (evN ⟨pg.g, pg.anc, pg.fld, callN pg k⟩ DN) f_nets_fences.body (ds.map some ++ List.replicate 0 none) h) else .bad := rfl
theorem u_nets_fence_of (k : Nat) (ds : List D) (h : AH) : callN pg (k + 1) i_nets_fence_of ds h = if ds.length = 2 then exitF h.os.length (ssEv (evN ⟨pg.g, pg.anc, pg.fld, callN pg k⟩ DN) f_nets_fence_of.body (ds.map some ++ List.replicate 1 none) h) else .bad := rfl
theorem u_nets_width (k : Nat) (ds : List D) (h : AH) : callN pg (k + 1) i_nets_width ds h = if ds.length = 2 then exitF h.os.length (ssEv (evN ⟨pg.g, pg.anc, pg.fld, callN pg k⟩ DN) f_nets_width.body (ds.map some ++ List.replicate 0 none) h) else .bad := rfl
theorem u_nets_load (k : Nat) (ds : List D) (h : AH) : callN pg (k + 1) i_nets_load ds h = if ds.length = 3 then exitF h.os.length (ssEv (evN ⟨pg.g, pg.anc, pg.fld, callN pg k⟩ DN) f_nets_load.body (ds.map some ++ List.replicate 0 none) h) else .bad := rfl
theorem u_nets_room (k : Nat) (ds : List D) (h : AH) : callN pg (k + 1) i_nets_room ds h = if ds.length = 3 then exitF h.os.length (ssEv (evN ⟨pg.g, pg.anc, pg.fld, callN pg k⟩ DN) f_nets_room.body (ds.map some ++ List.replicate 0 none) h) else .bad := rfl
theorem u_nets_weak_fences (k : Nat) (ds : List D) (h : AH) : callN pg (k + 1) i_nets_weak_fences ds h = if ds.length = 2 then exitF h.os.length (ssEv (evN ⟨pg.g, pg.anc, pg.fld, callN pg k⟩ DN) f_nets_weak_fences.body (ds.map some ++ List.replicate 1 none) h) else .bad := rfl
theorem u_nets_tight_fences (k : Nat) (ds : List D) (h : AH) : callN pg (k + 1) i_nets_tight_fences ds h = if ds.length = 2 then exitF h.os.length (ssEv (evN ⟨pg.g, pg.anc, pg.fld, callN pg k⟩ DN) f_nets_tight_fences.body (ds.map some ++ List.replicate 1 none) h) else .bad := rfl
theorem u_nets_first_weak (k : Nat) (ds : List D) (h : AH) : callN pg (k + 1) i_nets_first_weak ds h = if ds.length = 2 then exitF h.os.length (ssEv (evN ⟨pg.g, pg.anc, pg.fld, callN pg k⟩ DN) f_nets_first_weak.body (ds.map some ++ List.replicate 0 none) h) else .bad := rfl
theorem u_nets_widths_at (k : Nat) (ds : List D) (h : AH) : callN pg (k + 1) i_nets_widths_at ds h = if ds.length = 1 then exitF h.os.length (ssEv (evN ⟨pg.g, pg.anc, pg.fld, callN pg k⟩ DN) f_nets_widths_at.body (ds.map some ++ List.replicate 1 none) h) else .bad := rfl
theorem u_nets_odd_points (k : Nat) (ds : List D) (h : AH) : callN pg (k + 1) i_nets_odd_points ds h = if ds.length = 2 then exitF h.os.length (ssEv (evN ⟨pg.g, pg.anc, pg.fld, callN pg k⟩ DN) f_nets_odd_points.body (ds.map some ++ List.replicate 0 none) h) else .bad := rfl
theorem u_nets_parts (k : Nat) (ds : List D) (h : AH) : callN pg (k + 1) i_nets_parts ds h = if ds.length = 1 then exitF h.os.length (ssEv (evN ⟨pg.g, pg.anc, pg.fld, callN pg k⟩ DN) f_nets_parts.body (ds.map some ++ List.replicate 3 none) h) else .bad := rfl
theorem u_made_is_order (k : Nat) (ds : List D) (h : AH) : callN pg (k + 1) i_made_is_order ds h = if ds.length = 2 then exitF h.os.length (ssEv (evN ⟨pg.g, pg.anc, pg.fld, callN pg k⟩ DN) f_made_is_order.body (ds.map some ++ List.replicate 1 none) h) else .bad := rfl
theorem u_made_renamed_links (k : Nat) (ds : List D) (h : AH) : callN pg (k + 1) i_made_renamed_links ds h = if ds.length = 2 then exitF h.os.length (ssEv (evN ⟨pg.g, pg.anc, pg.fld, callN pg k⟩ DN) f_made_renamed_links.body (ds.map some ++ List.replicate 5 none) h) else .bad := rfl
theorem u_made_renamed (k : Nat) (ds : List D) (h : AH) : callN pg (k + 1) i_made_renamed ds h = if ds.length = 3 then exitF h.os.length (ssEv (evN ⟨pg.g, pg.anc, pg.fld, callN pg k⟩ DN) f_made_renamed.body (ds.map some ++ List.replicate 0 none) h) else .bad := rfl
theorem u_made_joined_links (k : Nat) (ds : List D) (h : AH) : callN pg (k + 1) i_made_joined_links ds h = if ds.length = 3 then exitF h.os.length (ssEv (evN ⟨pg.g, pg.anc, pg.fld, callN pg k⟩ DN) f_made_joined_links.body (ds.map some ++ List.replicate 5 none) h) else .bad := rfl
theorem u_made_is_too_great (k : Nat) (ds : List D) (h : AH) : callN pg (k + 1) i_made_is_too_great ds h = if ds.length = 1 then exitF h.os.length (ssEv (evN ⟨pg.g, pg.anc, pg.fld, callN pg k⟩ DN) f_made_is_too_great.body (ds.map some ++ List.replicate 1 none) h) else .bad := rfl
theorem u_made_put_together (k : Nat) (ds : List D) (h : AH) : callN pg (k + 1) i_made_put_together ds h = if ds.length = 4 then exitF h.os.length (ssEv (evN ⟨pg.g, pg.anc, pg.fld, callN pg k⟩ DN) f_made_put_together.body (ds.map some ++ List.replicate 2 none) h) else .bad := rfl
theorem u_law_stream (k : Nat) (ds : List D) (h : AH) : callN pg (k + 1) i_law_stream ds h = if ds.length = 1 then exitF h.os.length (ssEv (evN ⟨pg.g, pg.anc, pg.fld, callN pg k⟩ DN) f_law_stream.body (ds.map some ++ List.replicate 0 none) h) else .bad := rfl
theorem u_law_next (k : Nat) (ds : List D) (h : AH) : callN pg (k + 1) i_law_next ds h = if ds.length = 2 then exitF h.os.length (ssEv (evN ⟨pg.g, pg.anc, pg.fld, callN pg k⟩ DN) f_law_next.body (ds.map some ++ List.replicate 3 none) h) else .bad := rfl
theorem u_law_is_integer (k : Nat) (ds : List D) (h : AH) : callN pg (k + 1) i_law_is_integer ds h = if ds.length = 1 then exitF h.os.length (ssEv (evN ⟨pg.g, pg.anc, pg.fld, callN pg k⟩ DN) f_law_is_integer.body (ds.map some ++ List.replicate 0 none) h) else .bad := rfl
theorem u_law_equal (k : Nat) (ds : List D) (h : AH) : callN pg (k + 1) i_law_equal ds h = if ds.length = 2 then exitF h.os.length (ssEv (evN ⟨pg.g, pg.anc, pg.fld, callN pg k⟩ DN) f_law_equal.body (ds.map some ++ List.replicate 1 none) h) else .bad := rfl
theorem u_law_pick (k : Nat) (ds : List D) (h : AH) : callN pg (k + 1) i_law_pick ds h = if ds.length = 2 then exitF h.os.length (ssEv (evN ⟨pg.g, pg.anc, pg.fld, callN pg k⟩ DN) f_law_pick.body (ds.map some ++ List.replicate 0 none) h) else .bad := rfl
theorem u_law_of_net (k : Nat) (ds : List D) (h : AH) : callN pg (k + 1) i_law_of_net ds h = if ds.length = 2 then exitF h.os.length (ssEv (evN ⟨pg.g, pg.anc, pg.fld, callN pg k⟩ DN) f_law_of_net.body (ds.map some ++ List.replicate 0 none) h) else .bad := rfl
theorem u_law_of_wishes (k : Nat) (ds : List D) (h : AH) : callN pg (k + 1) i_law_of_wishes ds h = if ds.length = 2 then exitF h.os.length (ssEv (evN ⟨pg.g, pg.anc, pg.fld, callN pg k⟩ DN) f_law_of_wishes.body (ds.map some ++ List.replicate 2 none) h) else .bad := rfl
theorem u_law_told (k : Nat) (ds : List D) (h : AH) : callN pg (k + 1) i_law_told ds h = if ds.length = 2 then exitF h.os.length (ssEv (evN ⟨pg.g, pg.anc, pg.fld, callN pg k⟩ DN) f_law_told.body (ds.map some ++ List.replicate 1 none) h) else .bad := rfl
theorem u_law (k : Nat) (ds : List D) (h : AH) : callN pg (k + 1) i_law ds h = if ds.length = 1 then exitF h.os.length (ssEv (evN ⟨pg.g, pg.anc, pg.fld, callN pg k⟩ DN) f_law.body (ds.map some ++ List.replicate 26 none) h) else .bad := rfl
def lawF : Nat := i_law
/-! the text -/
def top (i : Nat) : Stmt := PySem.Challenge.pw_wishshapes_k07_refusals_of_nets.main.body.getD i (.Pass ⟨0, 0, 0, 0⟩)
def x_nets_is_whole : Tx := ⟨"is_whole", "is_whole", [("value" : Str), ("low" : Str), ("high" : Str)], [("value" : Str), ("low" : Str), ("high" : Str)], defArgs (top 10), defBody (top 10), defScope (top 10)⟩
def x_nets_is_link : Tx := ⟨"is_link", "is_link", [("points" : Str), ("value" : Str)], [("points" : Str), ("value" : Str)], defArgs (top 11), defBody (top 11), defScope (top 11)⟩
def x_nets_are_links : Tx := ⟨"are_links", "are_links", [("points" : Str), ("value" : Str), ("most" : Str)], [("points" : Str), ("value" : Str), ("most" : Str), ("link" : Str), ("at" : Str)], defArgs (top 12), defBody (top 12), defScope (top 12)⟩
def x_nets_is_net : Tx := ⟨"is_net", "is_net", [("value" : Str)], [("value" : Str)], defArgs (top 13), defBody (top 13), defScope (top 13)⟩
def x_nets_is_side : Tx := ⟨"is_side", "is_side", [("points" : Str), ("value" : Str)], [("points" : Str), ("value" : Str), ("point" : Str), ("at" : Str)], defArgs (top 14), defBody (top 14), defScope (top 14)⟩
def x_nets_check_net : Tx := ⟨"check_net", "check_net", [("net" : Str)], [("net" : Str)], defArgs (top 15), defBody (top 15), defScope (top 15)⟩
def x_nets_check_wishes : Tx := ⟨"check_wishes", "check_wishes", [("net" : Str), ("wishes" : Str)], [("net" : Str), ("wishes" : Str)], defArgs (top 16), defBody (top 16), defScope (top 16)⟩
def x_nets_check_fence : Tx := ⟨"check_fence", "check_fence", [("net" : Str), ("fence" : Str)], [("net" : Str), ("fence" : Str)], defArgs (top 17), defBody (top 17), defScope (top 17)⟩
def x_nets_are_wishes : Tx := ⟨"are_wishes", "are_wishes", [("net" : Str), ("value" : Str)], [("net" : Str), ("value" : Str)], defArgs (top 18), defBody (top 18), defScope (top 18)⟩
def x_nets_is_fence : Tx := ⟨"is_fence", "is_fence", [("net" : Str), ("value" : Str)], [("net" : Str), ("value" : Str)], defArgs (top 19), defBody (top 19), defScope (top 19)⟩
def x_nets_fences_of : Tx := ⟨"fences_of", "fences_of", [("points" : Str)], [("points" : Str), ("rows" : Str), ("point" : Str), ("row" : Str)], defArgs (top 20), defBody (top 20), defScope (top 20)⟩
def x_nets_crosses : Tx := ⟨"crosses", "crosses", [("fence" : Str), ("link" : Str)], [("fence" : Str), ("link" : Str)], defArgs (top 21), defBody (top 21), defScope (top 21)⟩
def x_nets_load_of : Tx := ⟨"load_of", "load_of", [("links" : Str), ("fence" : Str)], [("links" : Str), ("fence" : Str), ("link" : Str)], defArgs (top 22), defBody (top 22), defScope (top 22)⟩
def x_nets_width_of : Tx := ⟨"width_of", "width_of", [("net" : Str), ("fence" : Str)], [("net" : Str), ("fence" : Str)], defArgs (top 23), defBody (top 23), defScope (top 23)⟩
def x_nets_room_of : Tx := ⟨"room_of", "room_of", [("net" : Str), ("wishes" : Str), ("fence" : Str)], [("net" : Str), ("wishes" : Str), ("fence" : Str)], defArgs (top 24), defBody (top 24), defScope (top 24)⟩
def x_nets_weak_in : Tx := ⟨"weak_in", "weak_in", [("net" : Str), ("wishes" : Str)], [("net" : Str), ("wishes" : Str), ("fence" : Str)], defArgs (top 25), defBody (top 25), defScope (top 25)⟩
def x_nets_sum_at : Tx := ⟨"sum_at", "sum_at", [("links" : Str), ("point" : Str)], [("links" : Str), ("point" : Str), ("link" : Str)], defArgs (top 26), defBody (top 26), defScope (top 26)⟩
def x_nets_odd_in : Tx := ⟨"odd_in", "odd_in", [("net" : Str), ("wishes" : Str)], [("net" : Str), ("wishes" : Str), ("point" : Str)], defArgs (top 27), defBody (top 27), defScope (top 27)⟩
def x_nets_part_of : Tx := ⟨"part_of", "part_of", [("net" : Str), ("first" : Str)], [("net" : Str), ("first" : Str), ("found" : Str), ("turn" : Str), ("road" : Str), ("end" : Str)], defArgs (top 28), defBody (top 28), defScope (top 28)⟩
def x_nets_fences : Tx := ⟨"fences", "fences", [("net" : Str)], [("net" : Str)], defArgs (top 29), defBody (top 29), defScope (top 29)⟩
def x_nets_fence_of : Tx := ⟨"fence_of", "fence_of", [("net" : Str), ("some" : Str)], [("net" : Str), ("some" : Str), ("point" : Str)], defArgs (top 30), defBody (top 30), defScope (top 30)⟩
def x_nets_width : Tx := ⟨"width", "width", [("net" : Str), ("fence" : Str)], [("net" : Str), ("fence" : Str)], defArgs (top 31), defBody (top 31), defScope (top 31)⟩
def x_nets_load : Tx := ⟨"load", "load", [("net" : Str), ("wishes" : Str), ("fence" : Str)], [("net" : Str), ("wishes" : Str), ("fence" : Str)], defArgs (top 32), defBody (top 32), defScope (top 32)⟩
def x_nets_room : Tx := ⟨"room", "room", [("net" : Str), ("wishes" : Str), ("fence" : Str)], [("net" : Str), ("wishes" : Str), ("fence" : Str)], defArgs (top 33), defBody (top 33), defScope (top 33)⟩
def x_nets_weak_fences : Tx := ⟨"weak_fences", "weak_fences", [("net" : Str), ("wishes" : Str)], [("net" : Str), ("wishes" : Str), ("fence" : Str)], defArgs (top 34), defBody (top 34), defScope (top 34)⟩
def x_nets_tight_fences : Tx := ⟨"tight_fences", "tight_fences", [("net" : Str), ("wishes" : Str)], [("net" : Str), ("wishes" : Str), ("fence" : Str)], defArgs (top 35), defBody (top 35), defScope (top 35)⟩
def x_nets_first_weak : Tx := ⟨"first_weak", "first_weak", [("net" : Str), ("wishes" : Str)], [("net" : Str), ("wishes" : Str)], defArgs (top 36), defBody (top 36), defScope (top 36)⟩
def x_nets_widths_at : Tx := ⟨"widths_at", "widths_at", [("net" : Str)], [("net" : Str), ("point" : Str)], defArgs (top 37), defBody (top 37), defScope (top 37)⟩
def x_nets_odd_points : Tx := ⟨"odd_points", "odd_points", [("net" : Str), ("wishes" : Str)], [("net" : Str), ("wishes" : Str)], defArgs (top 38), defBody (top 38), defScope (top 38)⟩
def x_nets_parts : Tx := ⟨"parts", "parts", [("net" : Str)], [("net" : Str), ("found" : Str), ("point" : Str), ("part" : Str)], defArgs (top 39), defBody (top 39), defScope (top 39)⟩
def x_made_is_order : Tx := ⟨"is_order", "is_order", [("points" : Str), ("value" : Str)], [("points" : Str), ("value" : Str), ("point" : Str)], defArgs (top 41), defBody (top 41), defScope (top 41)⟩
def x_made_renamed_links : Tx := ⟨"renamed_links", "renamed_links", [("links" : Str), ("order" : Str)], [("links" : Str), ("order" : Str), ("rows" : Str), ("one" : Str), ("other" : Str), ("number" : Str), ("row" : Str)], defArgs (top 42), defBody (top 42), defScope (top 42)⟩
def x_made_renamed : Tx := ⟨"renamed", "renamed", [("net" : Str), ("wishes" : Str), ("order" : Str)], [("net" : Str), ("wishes" : Str), ("order" : Str)], defArgs (top 43), defBody (top 43), defScope (top 43)⟩
def x_made_joined_links : Tx := ⟨"joined_links", "joined_links", [("links" : Str), ("one" : Str), ("other" : Str)], [("links" : Str), ("one" : Str), ("other" : Str), ("sums" : Str), ("link" : Str), ("ends" : Str), ("pair" : Str), ("end" : Str)], defArgs (top 44), defBody (top 44), defScope (top 44)⟩
def x_made_is_too_great : Tx := ⟨"is_too_great", "is_too_great", [("links" : Str)], [("links" : Str), ("link" : Str)], defArgs (top 45), defBody (top 45), defScope (top 45)⟩
def x_made_put_together : Tx := ⟨"put_together", "put_together", [("net" : Str), ("wishes" : Str), ("one" : Str), ("other" : Str)], [("net" : Str), ("wishes" : Str), ("one" : Str), ("other" : Str), ("roads" : Str), ("left" : Str)], defArgs (top 46), defBody (top 46), defScope (top 46)⟩
def x_law_stream : Tx := ⟨"_law_stream", "_law_stream", [("script" : Str)], [("script" : Str)], defArgs (top 48), defBody (top 48), defScope (top 48)⟩
def x_law_next : Tx := ⟨"_law_next", "_law_next", [("stream" : Str), ("many" : Str)], [("stream" : Str), ("many" : Str), ("k" : Str), ("cell" : Str), ("digit" : Str)], defArgs (top 49), defBody (top 49), defScope (top 49)⟩
def x_law_is_integer : Tx := ⟨"_law_is_integer", "_law_is_integer", [("actual" : Str)], [("actual" : Str)], defArgs (top 50), defBody (top 50), defScope (top 50)⟩
def x_law_equal : Tx := ⟨"_law_equal", "_law_equal", [("actual" : Str), ("due" : Str)], [("actual" : Str), ("due" : Str), ("at" : Str)], defArgs (top 51), defBody (top 51), defScope (top 51)⟩
def x_law_pick : Tx := ⟨"_law_pick", "_law_pick", [("stream" : Str), ("rows" : Str)], [("stream" : Str), ("rows" : Str)], defArgs (top 52), defBody (top 52), defScope (top 52)⟩
def x_law_of_net : Tx := ⟨"_law_of_net", "_law_of_net", [("word" : Str), ("net" : Str)], [("word" : Str), ("net" : Str)], defArgs (top 53), defBody (top 53), defScope (top 53)⟩
def x_law_of_wishes : Tx := ⟨"_law_of_wishes", "_law_of_wishes", [("word" : Str), ("parts_of_call" : Str)], [("word" : Str), ("parts_of_call" : Str), ("net" : Str), ("wishes" : Str)], defArgs (top 54), defBody (top 54), defScope (top 54)⟩
def x_law_told : Tx := ⟨"_law_told", "_law_told", [("word" : Str), ("parts_of_call" : Str)], [("word" : Str), ("parts_of_call" : Str), ("problem" : Str)], defArgs (top 55), defBody (top 55), defScope (top 55)⟩
def x_law : Tx := ⟨"law", "law", [("script" : Str)], [("script" : Str), ("stream" : Str), ("roads" : Str), ("wishes" : Str), ("net" : Str), ("bad_net" : Str), ("bad_wishes" : Str), ("bad_fence" : Str), ("bad_some" : Str), ("bad_order" : Str), ("bad_one" : Str), ("bad_other" : Str), ("rows" : Str), ("word" : Str), ("both" : Str), ("good" : Str), ("bad" : Str), ("names" : Str), ("k" : Str), ("wrong" : Str), ("alone" : Str), ("options" : Str), ("two" : Str), ("told" : Str), ("other" : Str), ("one" : Str), ("great" : Str)], defArgs (top 56), defBody (top 56), defScope (top 56)⟩
def ds : List Tx := [x_nets_is_whole, x_nets_is_link, x_nets_are_links, x_nets_is_net, x_nets_is_side, x_nets_check_net, x_nets_check_wishes, x_nets_check_fence, x_nets_are_wishes, x_nets_is_fence, x_nets_fences_of, x_nets_crosses, x_nets_load_of, x_nets_width_of, x_nets_room_of, x_nets_weak_in, x_nets_sum_at, x_nets_odd_in, x_nets_part_of, x_nets_fences, x_nets_fence_of, x_nets_width, x_nets_load, x_nets_room, x_nets_weak_fences, x_nets_tight_fences, x_nets_first_weak, x_nets_widths_at, x_nets_odd_points, x_nets_parts, x_made_is_order, x_made_renamed_links, x_made_renamed, x_made_joined_links, x_made_is_too_great, x_made_put_together, x_law_stream, x_law_next, x_law_is_integer, x_law_equal, x_law_pick, x_law_of_net, x_law_of_wishes, x_law_told, x_law]
def gs : List (Str × D) := [("MOST_POINTS", (.int 7)), ("MOST_ROADS", (.int 15)), ("MOST_WISHES", (.int 10)), ("MOST_WIDTH", (.int 6))]
def ini_BadValue : Stmt := (clsBody (top 2)).getD 0 (.Pass ⟨0, 0, 0, 0⟩)
def x_ini_BadValue : Tx := ⟨"__init__", "BadValue.__init__", [("self" : Str), ("name" : Str)], [("self" : Str), ("name" : Str)], defArgs ini_BadValue, defBody ini_BadValue, defScope ini_BadValue⟩
def ini_TooLarge : Stmt := (clsBody (top 3)).getD 0 (.Pass ⟨0, 0, 0, 0⟩)
def x_ini_TooLarge : Tx := ⟨"__init__", "TooLarge.__init__", [("self" : Str), ("what" : Str)], [("self" : Str), ("what" : Str)], defArgs ini_TooLarge, defBody ini_TooLarge, defScope ini_TooLarge⟩
def ini_NotPossible : Stmt := (clsBody (top 4)).getD 0 (.Pass ⟨0, 0, 0, 0⟩)
def x_ini_NotPossible : Tx := ⟨"__init__", "NotPossible.__init__", [("self" : Str), ("why" : Str)], [("self" : Str), ("why" : Str)], defArgs ini_NotPossible, defBody ini_NotPossible, defScope ini_NotPossible⟩
def ks : List Kl := [⟨"ValueError", [], [0], none⟩, ⟨"WishError", [], [1, 0], none⟩, ⟨"BadValue", [("name" : Str)], [2, 1, 0], some x_ini_BadValue⟩, ⟨"TooLarge", [("what" : Str)], [3, 1, 0], some x_ini_TooLarge⟩, ⟨"NotPossible", [("why" : Str)], [4, 1, 0], some x_ini_NotPossible⟩]
def pn : PN := ⟨ds.map (·.x), gs.map (·.1), ks.map (·.x), [("name" : Str), ("what" : Str), ("why" : Str)], [2, 3, 4]⟩
theorem kl : klCk pn pg ks = true := by kernel_rfl
theorem hik : ∀ k ∈ ks, ∀ t, k.ini = some t → ∀ (kV doc pm : Value) (an : Option Addr) (cdv ct : Value) (us : List Value), us.length = t.ps.length → bindArgs (PySem.W.fnOf "__init__" t.nm t.params t.body t.sc .none kV doc pm an cdv ct) ⟨us, []⟩ = pure (t.ps.zip us) := by
  intro k hk t e
  simp only [ks, List.mem_cons, List.not_mem_nil, or_false] at hk
  rcases hk with rfl | rfl | rfl | rfl | rfl
  · cases e
  · cases e
  · cases e; exact fun _ _ _ _ _ _ us hl => match us, hl with | [_, _], _ => rfl
  · cases e; exact fun _ _ _ _ _ _ us hl => match us, hl with | [_, _], _ => rfl
  · cases e; exact fun _ _ _ _ _ _ us hl => match us, hl with | [_, _], _ => rfl
theorem b_nets_is_whole : BndOk x_nets_is_whole := fun _ _ _ _ _ _ us hl => match us, hl with | [_, _, _], _ => rfl
theorem b_nets_is_link : BndOk x_nets_is_link := fun _ _ _ _ _ _ us hl => match us, hl with | [_, _], _ => rfl
theorem b_nets_are_links : BndOk x_nets_are_links := fun _ _ _ _ _ _ us hl => match us, hl with | [_, _, _], _ => rfl
theorem b_nets_is_net : BndOk x_nets_is_net := fun _ _ _ _ _ _ us hl => match us, hl with | [_], _ => rfl
theorem b_nets_is_side : BndOk x_nets_is_side := fun _ _ _ _ _ _ us hl => match us, hl with | [_, _], _ => rfl
theorem b_nets_check_net : BndOk x_nets_check_net := fun _ _ _ _ _ _ us hl => match us, hl with | [_], _ => rfl
theorem b_nets_check_wishes : BndOk x_nets_check_wishes := fun _ _ _ _ _ _ us hl => match us, hl with | [_, _], _ => rfl
theorem b_nets_check_fence : BndOk x_nets_check_fence := fun _ _ _ _ _ _ us hl => match us, hl with | [_, _], _ => rfl
theorem b_nets_are_wishes : BndOk x_nets_are_wishes := fun _ _ _ _ _ _ us hl => match us, hl with | [_, _], _ => rfl
theorem b_nets_is_fence : BndOk x_nets_is_fence := fun _ _ _ _ _ _ us hl => match us, hl with | [_, _], _ => rfl
theorem b_nets_fences_of : BndOk x_nets_fences_of := fun _ _ _ _ _ _ us hl => match us, hl with | [_], _ => rfl
theorem b_nets_crosses : BndOk x_nets_crosses := fun _ _ _ _ _ _ us hl => match us, hl with | [_, _], _ => rfl
theorem b_nets_load_of : BndOk x_nets_load_of := fun _ _ _ _ _ _ us hl => match us, hl with | [_, _], _ => rfl
theorem b_nets_width_of : BndOk x_nets_width_of := fun _ _ _ _ _ _ us hl => match us, hl with | [_, _], _ => rfl
theorem b_nets_room_of : BndOk x_nets_room_of := fun _ _ _ _ _ _ us hl => match us, hl with | [_, _, _], _ => rfl
theorem b_nets_weak_in : BndOk x_nets_weak_in := fun _ _ _ _ _ _ us hl => match us, hl with | [_, _], _ => rfl
theorem b_nets_sum_at : BndOk x_nets_sum_at := fun _ _ _ _ _ _ us hl => match us, hl with | [_, _], _ => rfl
theorem b_nets_odd_in : BndOk x_nets_odd_in := fun _ _ _ _ _ _ us hl => match us, hl with | [_, _], _ => rfl
theorem b_nets_part_of : BndOk x_nets_part_of := fun _ _ _ _ _ _ us hl => match us, hl with | [_, _], _ => rfl
theorem b_nets_fences : BndOk x_nets_fences := fun _ _ _ _ _ _ us hl => match us, hl with | [_], _ => rfl
theorem b_nets_fence_of : BndOk x_nets_fence_of := fun _ _ _ _ _ _ us hl => match us, hl with | [_, _], _ => rfl
theorem b_nets_width : BndOk x_nets_width := fun _ _ _ _ _ _ us hl => match us, hl with | [_, _], _ => rfl
theorem b_nets_load : BndOk x_nets_load := fun _ _ _ _ _ _ us hl => match us, hl with | [_, _, _], _ => rfl
theorem b_nets_room : BndOk x_nets_room := fun _ _ _ _ _ _ us hl => match us, hl with | [_, _, _], _ => rfl
theorem b_nets_weak_fences : BndOk x_nets_weak_fences := fun _ _ _ _ _ _ us hl => match us, hl with | [_, _], _ => rfl
theorem b_nets_tight_fences : BndOk x_nets_tight_fences := fun _ _ _ _ _ _ us hl => match us, hl with | [_, _], _ => rfl
theorem b_nets_first_weak : BndOk x_nets_first_weak := fun _ _ _ _ _ _ us hl => match us, hl with | [_, _], _ => rfl
theorem b_nets_widths_at : BndOk x_nets_widths_at := fun _ _ _ _ _ _ us hl => match us, hl with | [_], _ => rfl
theorem b_nets_odd_points : BndOk x_nets_odd_points := fun _ _ _ _ _ _ us hl => match us, hl with | [_, _], _ => rfl
theorem b_nets_parts : BndOk x_nets_parts := fun _ _ _ _ _ _ us hl => match us, hl with | [_], _ => rfl
theorem b_made_is_order : BndOk x_made_is_order := fun _ _ _ _ _ _ us hl => match us, hl with | [_, _], _ => rfl
theorem b_made_renamed_links : BndOk x_made_renamed_links := fun _ _ _ _ _ _ us hl => match us, hl with | [_, _], _ => rfl
theorem b_made_renamed : BndOk x_made_renamed := fun _ _ _ _ _ _ us hl => match us, hl with | [_, _, _], _ => rfl
theorem b_made_joined_links : BndOk x_made_joined_links := fun _ _ _ _ _ _ us hl => match us, hl with | [_, _, _], _ => rfl
theorem b_made_is_too_great : BndOk x_made_is_too_great := fun _ _ _ _ _ _ us hl => match us, hl with | [_], _ => rfl
theorem b_made_put_together : BndOk x_made_put_together := fun _ _ _ _ _ _ us hl => match us, hl with | [_, _, _, _], _ => rfl
theorem b_law_stream : BndOk x_law_stream := fun _ _ _ _ _ _ us hl => match us, hl with | [_], _ => rfl
theorem b_law_next : BndOk x_law_next := fun _ _ _ _ _ _ us hl => match us, hl with | [_, _], _ => rfl
theorem b_law_is_integer : BndOk x_law_is_integer := fun _ _ _ _ _ _ us hl => match us, hl with | [_], _ => rfl
theorem b_law_equal : BndOk x_law_equal := fun _ _ _ _ _ _ us hl => match us, hl with | [_, _], _ => rfl
theorem b_law_pick : BndOk x_law_pick := fun _ _ _ _ _ _ us hl => match us, hl with | [_, _], _ => rfl
theorem b_law_of_net : BndOk x_law_of_net := fun _ _ _ _ _ _ us hl => match us, hl with | [_, _], _ => rfl
theorem b_law_of_wishes : BndOk x_law_of_wishes := fun _ _ _ _ _ _ us hl => match us, hl with | [_, _], _ => rfl
theorem b_law_told : BndOk x_law_told := fun _ _ _ _ _ _ us hl => match us, hl with | [_, _], _ => rfl
theorem b_law : BndOk x_law := fun _ _ _ _ _ _ us hl => match us, hl with | [_], _ => rfl
theorem bnd : ∀ d ∈ ds, BndOk d := by
  intro d hd
  simp only [ds, List.mem_cons, List.not_mem_nil, or_false] at hd
  rcases hd with rfl | rfl | rfl | rfl | rfl | rfl | rfl | rfl | rfl | rfl | rfl | rfl | rfl | rfl | rfl | rfl | rfl | rfl | rfl | rfl | rfl | rfl | rfl | rfl | rfl | rfl | rfl | rfl | rfl | rfl | rfl | rfl | rfl | rfl | rfl | rfl | rfl | rfl | rfl | rfl | rfl | rfl | rfl | rfl | rfl
  · exact b_nets_is_whole
  · exact b_nets_is_link
  · exact b_nets_are_links
  · exact b_nets_is_net
  · exact b_nets_is_side
  · exact b_nets_check_net
  · exact b_nets_check_wishes
  · exact b_nets_check_fence
  · exact b_nets_are_wishes
  · exact b_nets_is_fence
  · exact b_nets_fences_of
  · exact b_nets_crosses
  · exact b_nets_load_of
  · exact b_nets_width_of
  · exact b_nets_room_of
  · exact b_nets_weak_in
  · exact b_nets_sum_at
  · exact b_nets_odd_in
  · exact b_nets_part_of
  · exact b_nets_fences
  · exact b_nets_fence_of
  · exact b_nets_width
  · exact b_nets_load
  · exact b_nets_room
  · exact b_nets_weak_fences
  · exact b_nets_tight_fences
  · exact b_nets_first_weak
  · exact b_nets_widths_at
  · exact b_nets_odd_points
  · exact b_nets_parts
  · exact b_made_is_order
  · exact b_made_renamed_links
  · exact b_made_renamed
  · exact b_made_joined_links
  · exact b_made_is_too_great
  · exact b_made_put_together
  · exact b_law_stream
  · exact b_law_next
  · exact b_law_is_integer
  · exact b_law_equal
  · exact b_law_pick
  · exact b_law_of_net
  · exact b_law_of_wishes
  · exact b_law_told
  · exact b_law
theorem c_nets_is_whole : fnCk pn f_nets_is_whole x_nets_is_whole = true := by kernel_rfl
theorem c_nets_is_link : fnCk pn f_nets_is_link x_nets_is_link = true := by kernel_rfl
theorem c_nets_are_links : fnCk pn f_nets_are_links x_nets_are_links = true := by kernel_rfl
theorem c_nets_is_net : fnCk pn f_nets_is_net x_nets_is_net = true := by kernel_rfl
theorem c_nets_is_side : fnCk pn f_nets_is_side x_nets_is_side = true := by kernel_rfl
theorem c_nets_check_net : fnCk pn f_nets_check_net x_nets_check_net = true := by kernel_rfl
theorem c_nets_check_wishes : fnCk pn f_nets_check_wishes x_nets_check_wishes = true := by kernel_rfl
theorem c_nets_check_fence : fnCk pn f_nets_check_fence x_nets_check_fence = true := by kernel_rfl
theorem c_nets_are_wishes : fnCk pn f_nets_are_wishes x_nets_are_wishes = true := by kernel_rfl
theorem c_nets_is_fence : fnCk pn f_nets_is_fence x_nets_is_fence = true := by kernel_rfl
theorem c_nets_fences_of : fnCk pn f_nets_fences_of x_nets_fences_of = true := by kernel_rfl
theorem c_nets_crosses : fnCk pn f_nets_crosses x_nets_crosses = true := by kernel_rfl
theorem c_nets_load_of : fnCk pn f_nets_load_of x_nets_load_of = true := by kernel_rfl
theorem c_nets_width_of : fnCk pn f_nets_width_of x_nets_width_of = true := by kernel_rfl
theorem c_nets_room_of : fnCk pn f_nets_room_of x_nets_room_of = true := by kernel_rfl
theorem c_nets_weak_in : fnCk pn f_nets_weak_in x_nets_weak_in = true := by kernel_rfl
theorem c_nets_sum_at : fnCk pn f_nets_sum_at x_nets_sum_at = true := by kernel_rfl
theorem c_nets_odd_in : fnCk pn f_nets_odd_in x_nets_odd_in = true := by kernel_rfl
theorem c_nets_part_of : fnCk pn f_nets_part_of x_nets_part_of = true := by kernel_rfl
theorem c_nets_fences : fnCk pn f_nets_fences x_nets_fences = true := by kernel_rfl
theorem c_nets_fence_of : fnCk pn f_nets_fence_of x_nets_fence_of = true := by kernel_rfl
theorem c_nets_width : fnCk pn f_nets_width x_nets_width = true := by kernel_rfl
theorem c_nets_load : fnCk pn f_nets_load x_nets_load = true := by kernel_rfl
theorem c_nets_room : fnCk pn f_nets_room x_nets_room = true := by kernel_rfl
theorem c_nets_weak_fences : fnCk pn f_nets_weak_fences x_nets_weak_fences = true := by kernel_rfl
theorem c_nets_tight_fences : fnCk pn f_nets_tight_fences x_nets_tight_fences = true := by kernel_rfl
theorem c_nets_first_weak : fnCk pn f_nets_first_weak x_nets_first_weak = true := by kernel_rfl
theorem c_nets_widths_at : fnCk pn f_nets_widths_at x_nets_widths_at = true := by kernel_rfl
theorem c_nets_odd_points : fnCk pn f_nets_odd_points x_nets_odd_points = true := by kernel_rfl
theorem c_nets_parts : fnCk pn f_nets_parts x_nets_parts = true := by kernel_rfl
theorem c_made_is_order : fnCk pn f_made_is_order x_made_is_order = true := by kernel_rfl
theorem c_made_renamed_links : fnCk pn f_made_renamed_links x_made_renamed_links = true := by kernel_rfl
theorem c_made_renamed : fnCk pn f_made_renamed x_made_renamed = true := by kernel_rfl
theorem c_made_joined_links : fnCk pn f_made_joined_links x_made_joined_links = true := by kernel_rfl
theorem c_made_is_too_great : fnCk pn f_made_is_too_great x_made_is_too_great = true := by kernel_rfl
theorem c_made_put_together : fnCk pn f_made_put_together x_made_put_together = true := by kernel_rfl
theorem c_law_stream : fnCk pn f_law_stream x_law_stream = true := by kernel_rfl
theorem c_law_next : fnCk pn f_law_next x_law_next = true := by kernel_rfl
theorem c_law_is_integer : fnCk pn f_law_is_integer x_law_is_integer = true := by kernel_rfl
theorem c_law_equal : fnCk pn f_law_equal x_law_equal = true := by kernel_rfl
theorem c_law_pick : fnCk pn f_law_pick x_law_pick = true := by kernel_rfl
theorem c_law_of_net : fnCk pn f_law_of_net x_law_of_net = true := by kernel_rfl
theorem c_law_of_wishes : fnCk pn f_law_of_wishes x_law_of_wishes = true := by kernel_rfl
theorem c_law_told : fnCk pn f_law_told x_law_told = true := by kernel_rfl
theorem c_law : fnCk pn f_law x_law = true := by kernel_rfl
theorem ck : pgCk pn pg ds = true := by
  have h : ((pg.fs.zip ds).all fun p => fnCk pn p.1 p.2) = true := by
    simp only [pg, ds, List.zip_cons_cons, List.zip_nil_right, List.all_cons, List.all_nil, c_nets_is_whole, c_nets_is_link, c_nets_are_links, c_nets_is_net, c_nets_is_side, c_nets_check_net, c_nets_check_wishes, c_nets_check_fence, c_nets_are_wishes, c_nets_is_fence, c_nets_fences_of, c_nets_crosses, c_nets_load_of, c_nets_width_of, c_nets_room_of, c_nets_weak_in, c_nets_sum_at, c_nets_odd_in, c_nets_part_of, c_nets_fences, c_nets_fence_of, c_nets_width, c_nets_load, c_nets_room, c_nets_weak_fences, c_nets_tight_fences, c_nets_first_weak, c_nets_widths_at, c_nets_odd_points, c_nets_parts, c_made_is_order, c_made_renamed_links, c_made_renamed, c_made_joined_links, c_made_is_too_great, c_made_put_together, c_law_stream, c_law_next, c_law_is_integer, c_law_equal, c_law_pick, c_law_of_net, c_law_of_wishes, c_law_told, c_law, Bool.and_self, Bool.and_true]
  exact Bool.and_eq_true_iff.mpr ⟨rfl, Bool.and_eq_true_iff.mpr ⟨rfl, h⟩⟩
/-! the head -/
abbrev R : PySem.W.OpenRow := PySem.W.OpenLaw.row PySem.Challenge.rw_wishshapes_k07_refusals_of_nets
abbrev hk : PySem.W.Hook := hookX 5 (fas ds gs) (ds.map Tx.dd ++ ks.flatMap Kl.dds) (clsB ks)
def ob (s : PySem.W.SharedT) : He.AlD × Bool := obsX 5 (fas ds gs) (ds.map Tx.dd ++ ks.flatMap Kl.dds) (clsB ks) (HandSHeadRun.getT s)
theorem ob_eq (s : PySem.W.SharedT) : ob s = hk.obs s.abs := obsX_eq (HandSHeadRun.getT_eq s)
def loose : List Str := [("WishError" : Str), ("BadValue" : Str), ("TooLarge" : Str), ("NotPossible" : Str), ("MOST_POINTS" : Str), ("MOST_ROADS" : Str), ("MOST_WISHES" : Str), ("MOST_WIDTH" : Str), ("is_whole" : Str), ("is_link" : Str), ("are_links" : Str), ("is_net" : Str), ("is_side" : Str), ("check_net" : Str), ("check_wishes" : Str), ("check_fence" : Str), ("are_wishes" : Str), ("is_fence" : Str), ("fences_of" : Str), ("crosses" : Str), ("load_of" : Str), ("width_of" : Str), ("room_of" : Str), ("weak_in" : Str), ("sum_at" : Str), ("odd_in" : Str), ("part_of" : Str), ("fences" : Str), ("fence_of" : Str), ("width" : Str), ("load" : Str), ("room" : Str), ("weak_fences" : Str), ("tight_fences" : Str), ("first_weak" : Str), ("widths_at" : Str), ("odd_points" : Str), ("parts" : Str), ("is_order" : Str), ("renamed_links" : Str), ("renamed" : Str), ("joined_links" : Str), ("is_too_great" : Str), ("put_together" : Str), ("_law_stream" : Str), ("_law_next" : Str), ("_law_is_integer" : Str), ("_law_equal" : Str), ("_law_pick" : Str), ("_law_of_net" : Str), ("_law_of_wishes" : Str), ("_law_told" : Str)]
theorem run (w : World) : HandSHeadRun.RunEq R (PySem.W.view R.prog [56]) hk ob 4000 loose w := by
  intro os
  kernel_rfl
end k07
end Rw
end

section
set_option Elab.async false
set_option linter.all false
set_option maxRecDepth 100000
set_option maxHeartbeats 4000000
/-! RfX: the evaluator at symbolic data. -/
namespace Rw
/-- a test with its ends -/
def onB {α : Type} (o : Option Bool) (x y z : α) : α := match o with
  | some true => x
  | some false => y
  | none => z
@[simp] theorem onB_t {α : Type} (x y z : α) : onB (some true) x y z = x := rfl
@[simp] theorem onB_f {α : Type} (x y z : α) : onB (some false) x y z = y := rfl
@[simp] theorem onB_n {α : Type} (x y z : α) : onB none x y z = z := rfl
theorem onB_s {α : Type} (b : Bool) (x y z : α) : onB (some b) x y z = if b = true then x else y := by cases b <;> rfl
@[simp] theorem onB_i {α : Type} (b : Bool) (x y z : α) : onB (some b) x y z = if b = true then x else y := onB_s b x y z
/-! what comes later: named, so that it is not looked into ahead of its turn -/
def kBin2 (op : BOp) (x y : DF) (h : AH) : R DF := opt h (binEv op h x.1 y.1)
def kBin1 (r : Ev) (op : BOp) (b : E) (env : Env) (x : DF) (h : AH) : R DF := (r.e b env h).bind (kBin2 op x)
def kTup (ds : List D) (h : AH) : R DF := if ds.length ≤ LN then .ok (.tup ds, false) h else .bad
def kLst (ds : List D) (h : AH) : R DF := if ds.length ≤ LN then .ok (.lst ds, true) h else .bad
def kNeg (x : DF) (h : AH) : R DF := match x.1 with | .int i => .ok (.int (-i), false) h | _ => .bad
def kNot (x : DF) (h : AH) : R DF := match tru h x.1 with | some b => .ok (.bl (!b), false) h | none => .bad
def kCmp2 (op : COp) (x y : DF) (h : AH) : R DF := match cmpEv op h x.1 y.1 with | some k => .ok (.bl k, false) h | none => .bad
def kCmp1 (r : Ev) (op : COp) (b : E) (env : Env) (x : DF) (h : AH) : R DF := (r.e b env h).bind (kCmp2 op x)
def kCh2 (r : Ev) (op op2 : COp) (c : E) (env : Env) (x y : DF) (h : AH) : R DF := onB (cmpEv op h x.1 y.1) ((r.e c env h).bind (kCmp2 op2 y)) (.ok (.bl false, false) h) .bad
def kCh1 (r : Ev) (op op2 : COp) (b c : E) (env : Env) (x : DF) (h : AH) : R DF := (r.e b env h).bind (kCh2 r op op2 c env x)
def kIfe (r : Ev) (a b : E) (env : Env) (x : DF) (h : AH) : R DF := onB (tru h x.1) (r.e a env h) (r.e b env h) .bad
def kIx2 (x y : DF) (h : AH) : R DF := opt h (ixEv h x.1 y.1)
def kIx1 (r : Ev) (i : E) (env : Env) (x : DF) (h : AH) : R DF := (r.e i env h).bind (kIx2 x)
def kSl3 (x : DF) (l : Option Int) (u : Option Int) (h : AH) : R DF := opt h (slEv h x.1 l u)
def kSl2 (r : Ev) (hi : Option E) (env : Env) (x : DF) (l : Option Int) (h : AH) : R DF := (partEv r hi env h).bind (kSl3 x l)
def kSl1 (r : Ev) (lo hi : Option E) (env : Env) (x : DF) (h : AH) : R DF := (partEv r lo env h).bind (kSl2 r hi env x)
def kBi (f : BI) (ds : List D) (h : AH) : R DF := opt h (biEv f h ds)
def kIsi (c : Cl) (x : DF) (h : AH) : R DF := opt h ((isiEv c h x.1).map fun b => (.bl b, false))
def kMe2 (m : ME) (x : DF) (ds : List D) (h : AH) : R DF := meEv m h x.1 ds
def kMe1 (r : Ev) (m : ME) (es : List E) (env : Env) (x : DF) (h : AH) : R DF := if meTy m h x.1 then (evL r es env h).bind (kMe2 m x) else .bad
def kReg (d : DF) (h : AH) : R DF := regEv h d
def kLrg (t : Bool) (xs : List D) (h : AH) : R DF := .ok (if t then (.tup xs, false) else (.lst xs, true)) h
def kL2 (d : DF) (ds : List D) (h : AH) : R (List D) := .ok (d.1 :: ds) h
def kL1 (r : Ev) (es : List E) (env : Env) (d : DF) (h : AH) : R (List D) := (evL r es env h).bind (kL2 d)
def kAnd (r : Ev) (es : List E) (env : Env) (d : DF) (h : AH) : R DF := onB (tru h d.1) (andEv r es env h) (.ok (d.1, false) h) .bad
def kOr (r : Ev) (es : List E) (env : Env) (d : DF) (h : AH) : R DF := onB (tru h d.1) (.ok (d.1, false) h) (orEv r es env h) .bad
def kAsg (r : Ev) (t : T) (env : Env) (d : DF) (h : AH) : O := (asgT r 4 t d.1 env h).o env O.nx
def kEx (env : Env) (_ : DF) (h : AH) : O := .nx env h
def kIf (r : Ev) (a b : List S) (env : Env) (x : DF) (h : AH) : O := onB (tru h x.1) (ssEv r a env h) (ssEv r b env h) .bad
def kRet (d : DF) (h : AH) : O := .rt d.1 d.2 h
def kPart (d : DF) (h : AH) : R (Option Int) := match d.1 with | .int i => .ok (some i) h | _ => .bad
section
variable {r : Ev} {op op2 : COp} {bo : BOp} {a b c e i : E} {env : Env} {x y d : DF} {h : AH} {ds : List D} {es : List E} {lo hi : Option E} {l u : Option Int}
@[simp] theorem kBin2_at : kBin2 bo x y h = opt h (binEv bo h x.1 y.1) := rfl
@[simp] theorem kBin1_at : kBin1 r bo b env x h = (r.e b env h).bind (kBin2 bo x) := rfl
@[simp] theorem kTup_at : kTup ds h = if ds.length ≤ LN then .ok (.tup ds, false) h else .bad := rfl
@[simp] theorem kLst_at : kLst ds h = if ds.length ≤ LN then .ok (.lst ds, true) h else .bad := rfl
@[simp] theorem kNeg_at : kNeg x h = (match x.1 with | .int i => .ok (.int (-i), false) h | _ => .bad) := rfl
@[simp] theorem kNot_at : kNot x h = (match tru h x.1 with | some b => .ok (.bl (!b), false) h | none => .bad) := rfl
@[simp] theorem kCmp2_at : kCmp2 op x y h = (match cmpEv op h x.1 y.1 with | some k => .ok (.bl k, false) h | none => .bad) := rfl
@[simp] theorem kCmp1_at : kCmp1 r op b env x h = (r.e b env h).bind (kCmp2 op x) := rfl
@[simp] theorem kCh2_at : kCh2 r op op2 c env x y h = onB (cmpEv op h x.1 y.1) ((r.e c env h).bind (kCmp2 op2 y)) (.ok (.bl false, false) h) .bad := rfl
@[simp] theorem kCh1_at : kCh1 r op op2 b c env x h = (r.e b env h).bind (kCh2 r op op2 c env x) := rfl
@[simp] theorem kIfe_at : kIfe r a b env x h = onB (tru h x.1) (r.e a env h) (r.e b env h) .bad := rfl
@[simp] theorem kIx2_at : kIx2 x y h = opt h (ixEv h x.1 y.1) := rfl
@[simp] theorem kIx1_at : kIx1 r i env x h = (r.e i env h).bind (kIx2 x) := rfl
@[simp] theorem kSl3_at : kSl3 x l u h = opt h (slEv h x.1 l u) := rfl
@[simp] theorem kSl2_at : kSl2 r hi env x l h = (partEv r hi env h).bind (kSl3 x l) := rfl
@[simp] theorem kSl1_at : kSl1 r lo hi env x h = (partEv r lo env h).bind (kSl2 r hi env x) := rfl
@[simp] theorem kBi_at (f : BI) : kBi f ds h = opt h (biEv f h ds) := rfl
@[simp] theorem kIsi_at (c : Cl) : kIsi c x h = opt h ((isiEv c h x.1).map fun b => (.bl b, false)) := rfl
@[simp] theorem kMe2_at (m : ME) : kMe2 m x ds h = meEv m h x.1 ds := rfl
@[simp] theorem kMe1_at (m : ME) : kMe1 r m es env x h = if meTy m h x.1 then (evL r es env h).bind (kMe2 m x) else .bad := rfl
@[simp] theorem kReg_at : kReg d h = regEv h d := rfl
@[simp] theorem kLrg_at (t : Bool) (xs : List D) : kLrg t xs h = .ok (if t then (.tup xs, false) else (.lst xs, true)) h := rfl
@[simp] theorem kL2_at : kL2 d ds h = .ok (d.1 :: ds) h := rfl
@[simp] theorem kL1_at : kL1 r es env d h = (evL r es env h).bind (kL2 d) := rfl
@[simp] theorem kAnd_at : kAnd r es env d h = onB (tru h d.1) (andEv r es env h) (.ok (d.1, false) h) .bad := rfl
@[simp] theorem kOr_at : kOr r es env d h = onB (tru h d.1) (.ok (d.1, false) h) (orEv r es env h) .bad := rfl
@[simp] theorem kAsg_at (t : T) : kAsg r t env d h = (asgT r 4 t d.1 env h).o env O.nx := rfl
@[simp] theorem kEx_at : kEx env d h = .nx env h := rfl
@[simp] theorem kIf_at (a b : List S) : kIf r a b env x h = onB (tru h x.1) (ssEv r a env h) (ssEv r b env h) .bad := rfl
@[simp] theorem kRet_at : kRet d h = .rt d.1 d.2 h := rfl
@[simp] theorem kPart_at : kPart d h = (match d.1 with | .int i => .ok (some i) h | _ => .bad) := rfl
@[simp] theorem part_n : partEv r none env h = .ok none h := rfl
@[simp] theorem part_s : partEv r (some e) env h = (r.e e env h).bind kPart := rfl
end
section
variable {K : Kn} {n : Nat} {env : Env} {h : AH}
@[simp] theorem xv (i : Nat) : (evN K (n + 1)).e (.v i) env h = (match env[i]? with | some (some d) => .ok (d, false) h | _ => .bad) := rfl
@[simp] theorem xc (d : D) : (evN K (n + 1)).e (.c d) env h = .ok (d, false) h := rfl
@[simp] theorem xgl (x : Nat) : (evN K (n + 1)).e (.gl x) env h = opt h (K.g[x]?.map fun d => (d, false)) := rfl
@[simp] theorem xtup (es : List E) : (evN K (n + 1)).e (.tup es) env h = (evL (evN K n) es env h).bind kTup := rfl
@[simp] theorem xlst (es : List E) : (evN K (n + 1)).e (.lst es) env h = (evL (evN K n) es env h).bind kLst := rfl
@[simp] theorem xbin (op : BOp) (a b : E) : (evN K (n + 1)).e (.bin op a b) env h = ((evN K n).e a env h).bind (kBin1 (evN K n) op b env) := rfl
@[simp] theorem xneg (a : E) : (evN K (n + 1)).e (.neg a) env h = ((evN K n).e a env h).bind kNeg := rfl
@[simp] theorem xnot (a : E) : (evN K (n + 1)).e (.not a) env h = ((evN K n).e a env h).bind kNot := rfl
@[simp] theorem xcmp (op : COp) (a b : E) : (evN K (n + 1)).e (.cmp op a b) env h = ((evN K n).e a env h).bind (kCmp1 (evN K n) op b env) := rfl
@[simp] theorem xchain (op op2 : COp) (a b c : E) : (evN K (n + 1)).e (.chain op op2 a b c) env h = ((evN K n).e a env h).bind (kCh1 (evN K n) op op2 b c env) := rfl
@[simp] theorem xand (es : List E) : (evN K (n + 1)).e (.and es) env h = andEv (evN K n) es env h := rfl
@[simp] theorem xor_ (es : List E) : (evN K (n + 1)).e (.or es) env h = orEv (evN K n) es env h := rfl
@[simp] theorem xife (c a b : E) : (evN K (n + 1)).e (.ife c a b) env h = ((evN K n).e c env h).bind (kIfe (evN K n) a b env) := rfl
@[simp] theorem xix (a i : E) : (evN K (n + 1)).e (.ix a i) env h = ((evN K n).e a env h).bind (kIx1 (evN K n) i env) := rfl
@[simp] theorem xsl (a : E) (lo hi : Option E) : (evN K (n + 1)).e (.sl a lo hi) env h = ((evN K n).e a env h).bind (kSl1 (evN K n) lo hi env) := rfl
@[simp] theorem xcall (f : Nat) (es : List E) : (evN K (n + 1)).e (.call f es) env h = (evL (evN K n) es env h).bind (K.call f) := rfl
@[simp] theorem xbi (f : BI) (es : List E) : (evN K (n + 1)).e (.bi f es) env h = (evL (evN K n) es env h).bind (kBi f) := rfl
@[simp] theorem xisi (a : E) (c : Cl) : (evN K (n + 1)).e (.isi a c) env h = ((evN K n).e a env h).bind (kIsi c) := rfl
@[simp] theorem xme (m : ME) (o : E) (es : List E) : (evN K (n + 1)).e (.me m o es) env h = ((evN K n).e o env h).bind (kMe1 (evN K n) m es env) := rfl
@[simp] theorem xreg (e : E) : (evN K (n + 1)).e (.reg e) env h = ((evN K n).e e env h).bind kReg := rfl
@[simp] theorem xlrg (t : Bool) (i : I) : (evN K (n + 1)).e (.lrg t i) env h = (itEv (evN K n) i env h).bind (kLrg t) := rfl
theorem xlc (t : T) (vs : List Nat) (i : I) (c : Option E) (e : E) : (evN K (n + 1)).e (.lc t vs i c e) env h = (itEv (evN K n) i env h).bind fun xs h1 => (lcEv (fun x h => (turnEv (evN K n) t vs c e env x h).nox) xs h1).bind fun ys h2 => if ys.length ≤ LN ∧ xs.length ≤ LN then .ok (.lst ys, true) h2 else .bad := rfl
@[simp] theorem yasg (t : T) (e : E) : (evN K (n + 1)).s (.asg t e) env h = ((evN K n).e e env h).o env (kAsg (evN K n) t env) := rfl
@[simp] theorem yex (e : E) : (evN K (n + 1)).s (.ex e) env h = ((evN K n).e e env h).o env (kEx env) := rfl
@[simp] theorem yife (c : E) (a b : List S) : (evN K (n + 1)).s (.ife c a b) env h = ((evN K n).e c env h).o env (kIf (evN K n) a b env) := rfl
theorem yfor (t : T) (i : I) (b : List S) : (evN K (n + 1)).s (.for t i b) env h = (itEv (evN K n) i env h).o env fun xs h1 => forEv (asgT (evN K n) 4 t) (ssEv (evN K n) b) xs env h1 := rfl
@[simp] theorem ywhl (c : E) (b : List S) : (evN K (n + 1)).s (.whl c b) env h = whlEv ((evN K n).e c) (ssEv (evN K n) b) WN env h := by
  show sEv K (evN K n) (.whl c b) env h = _
  simp only [sEv]
@[simp] theorem yret (e : E) : (evN K (n + 1)).s (.ret e) env h = ((evN K n).e e env h).o env kRet := rfl
@[simp] theorem yretN : (evN K (n + 1)).s (.retN) env h = .rt .non false h := rfl
@[simp] theorem ypass : (evN K (n + 1)).s (.pass) env h = .nx env h := rfl
@[simp] theorem ycont : (evN K (n + 1)).s (.cont) env h = .ct env h := rfl
@[simp] theorem ybrk : (evN K (n + 1)).s (.brk) env h = .bk env h := rfl
end
@[simp] theorem eL0 (r : Ev) (env : Env) (h : AH) : evL r [] env h = .ok [] h := rfl
@[simp] theorem eL1 (r : Ev) (e : E) (es : List E) (env : Env) (h : AH) : evL r (e :: es) env h = (r.e e env h).bind (kL1 r es env) := rfl
@[simp] theorem eS0 (r : Ev) (env : Env) (h : AH) : ssEv r [] env h = .nx env h := rfl
theorem eS1 (r : Ev) (s : S) (ss : List S) (env : Env) (h : AH) : ssEv r (s :: ss) env h = (r.s s env h).then fun env h => ssEv r ss env h := rfl
/-- the rest of a block, not looked into ahead of its turn -/
def ssK (r : Ev) (ss : List S) (env : Env) (h : AH) : O := ssEv r ss env h
@[simp] theorem ssK_at (r : Ev) (ss : List S) (env : Env) (h : AH) : ssK r ss env h = ssEv r ss env h := rfl
@[simp] theorem eS1K (r : Ev) (s : S) (ss : List S) (env : Env) (h : AH) : ssEv r (s :: ss) env h = (r.s s env h).then (ssK r ss) := rfl
@[simp] theorem eA1 (r : Ev) (e : E) (env : Env) (h : AH) : andEv r [e] env h = r.e e env h := rfl
@[simp] theorem eA2 (r : Ev) (e e2 : E) (es : List E) (env : Env) (h : AH) : andEv r (e :: e2 :: es) env h = (r.e e env h).bind (kAnd r (e2 :: es) env) := rfl
@[simp] theorem eO1 (r : Ev) (e : E) (env : Env) (h : AH) : orEv r [e] env h = r.e e env h := rfl
@[simp] theorem eO2 (r : Ev) (e e2 : E) (es : List E) (env : Env) (h : AH) : orEv r (e :: e2 :: es) env h = (r.e e env h).bind (kOr r (e2 :: es) env) := rfl
@[simp] theorem b_ok {α β : Type} (a : α) (h : AH) (f : α → AH → R β) : (R.ok a h).bind f = f a h := rfl
@[simp] theorem b_bad {α β : Type} (f : α → AH → R β) : (R.bad : R α).bind f = .bad := rfl
@[simp] theorem o_ok {α : Type} (a : α) (h : AH) (env : Env) (f : α → AH → O) : (R.ok a h).o env f = f a h := rfl
@[simp] theorem t_nx (env : Env) (h : AH) (f : Env → AH → O) : (O.nx env h).then f = f env h := rfl
@[simp] theorem t_rt (d : D) (b : Bool) (h : AH) (f : Env → AH → O) : (O.rt d b h).then f = .rt d b h := rfl
@[simp] theorem t_ct (env : Env) (h : AH) (f : Env → AH → O) : (O.ct env h).then f = .ct env h := rfl
@[simp] theorem t_bk (env : Env) (h : AH) (f : Env → AH → O) : (O.bk env h).then f = .bk env h := rfl
@[simp] theorem l_nx (env : Env) (h : AH) (f : Env → AH → O) : (O.nx env h).loop f = f env h := rfl
@[simp] theorem l_ct (env : Env) (h : AH) (f : Env → AH → O) : (O.ct env h).loop f = f env h := rfl
@[simp] theorem l_rt (d : D) (b : Bool) (h : AH) (f : Env → AH → O) : (O.rt d b h).loop f = .rt d b h := rfl
@[simp] theorem l_bk (env : Env) (h : AH) (f : Env → AH → O) : (O.bk env h).loop f = .nx env h := rfl
@[simp] theorem opt_s {α : Type} (h : AH) (a : α) : opt h (some a) = .ok a h := rfl
@[simp] theorem x_rt (n : Nat) (d : D) (f : Bool) (h : AH) : exitF n (.rt d f h) = leave n d f h := rfl
@[simp] theorem x_nx (n : Nat) (env : Env) (h : AH) : exitF n (.nx env h) = leave n .non false h := rfl
@[simp] theorem n_ok {α : Type} (a : α) (h : AH) : (R.ok a h).nox = .ok a h := rfl
@[simp] theorem tru_bl (h : AH) (b : Bool) : tru h (.bl b) = some b := rfl
@[simp] theorem tru_int (h : AH) (i : Int) : tru h (.int i) = some (i != 0) := rfl
/-- a test with two ends -/
theorem m_bool {α : Type} (b : Bool) (x y : α) (z : α) : (match some b with | some true => x | some false => y | none => z) = if b then x else y := by cases b <;> rfl
mutual
theorem frz_top0 (os : List Ob) (n : Nat) : ∀ (k : Nat) (d : D), d.top = 0 → frz os n k d = d
  | 0, d, _ => rfl
  | k + 1, d, e => by
    cases d with
    | ref m => simp [D.top] at e
    | tup xs => show D.tup (xs.map (frz os n k)) = _; rw [frz_top0L os n k xs e]
    | lst xs => show D.lst (xs.map (frz os n k)) = _; rw [frz_top0L os n k xs e]
    | _ => rfl
theorem frz_top0L (os : List Ob) (n : Nat) : ∀ (k : Nat) (xs : List D), topL xs = 0 → xs.map (frz os n k) = xs
  | _, [], _ => rfl
  | k, x :: xs, e => by
    have e' : max x.top (topL xs) = 0 := e
    rw [List.map_cons, frz_top0 os n k x (by omega), frz_top0L os n k xs (by omega)]
end
/-- an immediate value leaves a def -/
theorem leave_imm {d : D} {f : Bool} {h : AH} (e : d.top = 0) : leave h.os.length d f h = .ok (d, f) h := by
  unfold leave
  split
  · rw [frz_top0 _ _ _ _ e, e, if_pos (Nat.zero_le _)]
    have fl : flat h.os h.os.length d = false := by
      cases d with
      | ref m => simp [D.top] at e
      | _ => rfl
    rw [fl, Bool.or_false, List.take_length]
  · rfl
@[simp] theorem leave_bl (h : AH) (b f : Bool) : leave h.os.length (.bl b) f h = .ok (.bl b, f) h := leave_imm rfl
@[simp] theorem leave_it (h : AH) (i : Int) (f : Bool) : leave h.os.length (.int i) f h = .ok (.int i, f) h := leave_imm rfl
@[simp] theorem leave_non (h : AH) (f : Bool) : leave h.os.length .non f h = .ok (.non, f) h := leave_imm rfl
theorem call_at {P : Pg} {k f : Nat} {ds : List D} {h : AH} {fn : Fn} (e : P.fs[f]? = some fn) (l : ds.length = fn.np) :
    callN P (k + 1) f ds h = exitF h.os.length (ssEv (evN ⟨P.g, P.anc, P.fld, callN P k⟩ DN) fn.body (ds.map some ++ List.replicate (fn.ns - fn.np) none) h) := by
  show (match P.fs[f]? with | some fn => _ | none => _) = _
  rw [e]
  show (if _ then _ else _) = _
  rw [if_pos l]
/-! ### comprehensions -/
/-- each turn leaves the heap as it is and gives what g tells -/
theorem lc_opt {β : Type} {body : D → AH → R (Option β)} {h : AH} {g : D → Option β} : ∀ {xs : List D}, (∀ x ∈ xs, body x h = .ok (g x) h) → lcEv body xs h = .ok (xs.filterMap g) h
  | [], _ => rfl
  | x :: xs, e => by
    unfold lcEv
    rw [e x (List.mem_cons_self ..), b_ok, lc_opt (xs := xs) fun y hy => e y (List.mem_cons_of_mem _ hy), b_ok]
    cases hg : g x <;> simp [List.filterMap_cons, hg]
theorem lc_map {β : Type} {body : D → AH → R (Option β)} {h : AH} {g : D → β} {xs : List D} (e : ∀ x ∈ xs, body x h = .ok (some (g x)) h) : lcEv body xs h = .ok (xs.map g) h := by
  rw [lc_opt (g := fun x => some (g x)) e]
  congr 1
  induction xs with
  | nil => rfl
  | cons x xs ih => simp [List.filterMap_cons, ih fun y hy => e y (List.mem_cons_of_mem _ hy)]
@[simp] theorem allBl_true {α : Type} (xs : List α) : allBl (xs.map fun _ => D.bl true) = some (xs.map fun _ => true) := by
  induction xs with
  | nil => rfl
  | cons x xs ih => simp [allBl, ih]
@[simp] theorem all_true {α : Type} (xs : List α) : ((xs.map fun _ => true).all id) = true := by simp
@[simp] theorem all_tt {α : Type} (xs : List α) : (xs.all fun _ => true) = true := by simp [List.all_eq_true]
/-- a turn, its target a name -/
theorem turn_nm {r : Ev} {i : Nat} {vs : List Nat} {c : Option E} {e : E} {env : Env} {x : D} {h : AH} (hl : i < env.length) :
    turnEv r (.nm i) vs c e env x h = (match c with
    | none => (r.e e ((wipeE env vs).set i (some x)) h).bind fun d h2 => .ok (some d.1) h2
    | some c => (r.e c ((wipeE env vs).set i (some x)) h).bind fun b h2 => (match tru h2 b.1 with
      | some true => (r.e e ((wipeE env vs).set i (some x)) h2).bind fun d h3 => .ok (some d.1) h3
      | some false => .ok none h2
      | none => .bad)) := by
  have hw : (wipeE env vs).length = env.length := by
    induction vs with
    | nil => rfl
    | cons v vs ih => simpa [wipeE] using ih
  unfold turnEv
  have e1 : asgT r 4 (.nm i) x (wipeE env vs) h = .ok ((wipeE env vs).set i (some x)) h := by
    show (if i < (wipeE env vs).length then _ else _) = _
    rw [hw]
    simp [hl]
  rw [e1, b_ok]
  all_goals rfl
/-- a comprehension over immediate items, each turn leaves the heap -/
theorem lc_val {K : Kn} {n : Nat} {env : Env} {h : AH} {i : Nat} {vs : List Nat} {it : I} {c : Option E} {e : E} {xs : List D} {g : D → Option D} (hi : itEv (evN K n) it env h = .ok xs h) (hl : i < env.length) (hx : xs.length ≤ LN)
    (hb : ∀ x ∈ xs, (match c with
      | none => ((evN K n).e e ((wipeE env vs).set i (some x)) h).bind fun d h2 => .ok (some d.1) h2
      | some c => ((evN K n).e c ((wipeE env vs).set i (some x)) h).bind fun b h2 => (match tru h2 b.1 with
        | some true => ((evN K n).e e ((wipeE env vs).set i (some x)) h2).bind fun d h3 => .ok (some d.1) h3
        | some false => .ok none h2
        | none => .bad)) = .ok (g x) h) : (evN K (n + 1)).e (.lc (.nm i) vs it c e) env h = .ok (.lst (xs.filterMap g), true) h := by
  rw [xlc, hi, b_ok, lc_opt (g := g), b_ok, if_pos]
  · refine ⟨Nat.le_trans (List.length_filterMap_le g xs) hx, hx⟩
  · intro x m
    rw [turn_nm hl, hb x m]
    rfl
theorem fm_some {α β : Type} (g : α → β) (xs : List α) : xs.filterMap (fun x => some (g x)) = xs.map g := by
  induction xs with
  | nil => rfl
  | cons x xs ih => simp [List.filterMap_cons, ih]
theorem plain_ints (f : List Int) : plainL (f.map D.int) = true := by
  unfold plainL
  rw [List.all_map]
  simp [plK, List.all_eq_true]
theorem any_ints (x : Int) : ∀ f : List Int, ((f.map D.int).any fun z => deq z (.int x)) = decide (x ∈ f)
  | [] => by simp
  | y :: f => by
    rw [List.map_cons, List.any_cons, any_ints x f]
    by_cases e : y = x
    · subst e; simp [deq]
    · have e' : ¬ x = y := fun z => e z.symm
      simp [deq, e, e']
theorem in_ints (h : AH) (x : Int) (f : List Int) : inEv h (.int x) (.tup (f.map .int)) = some (decide (x ∈ f)) := by
  show (if (D.int x).plain && plainL (f.map .int) then some ((f.map D.int).any fun z => deq z (.int x)) else none) = _
  rw [plain_ints, any_ints]
  rfl
theorem allInt_ints : ∀ f : List Int, allInt (f.map D.int) = some f
  | [] => rfl
  | x :: f => by simp [allInt, allInt_ints f]
theorem allInt_app {α β : Type} (g : α → Int) (g' : β → Int) (xs : List α) (ys : List β) : allInt (xs.map (D.int ∘ g) ++ ys.map (D.int ∘ g')) = some (xs.map g ++ ys.map g') := by
  have := allInt_ints (xs.map g ++ ys.map g')
  rw [List.map_append, List.map_map, List.map_map] at this
  exact this
end Rw
end

section
set_option Elab.async false
set_option linter.all false
set_option maxRecDepth 100000
set_option maxHeartbeats 4000000
/-! RfX2: the evaluator at symbolic data: exceptions, further equations. -/
namespace Rw
section
variable {K : Kn} {n : Nat} {env : Env} {h : AH}
@[simp] theorem xrev (a : E) : (evN K (n + 1)).e (.rev a) env h = ((evN K n).e a env h).bind fun x h1 => opt h1 (revEv h1 x.1) := rfl
@[simp] theorem xrvf (a i : E) : (evN K (n + 1)).e (.rvf a i) env h = ((evN K n).e a env h).bind fun x h1 => ((evN K n).e i env h1).bind fun y h2 => opt h2 (rvfEv x.1 y.1) := rfl
@[simp] theorem xemT : (evN K (n + 1)).e .emT env h = .ok (.dT [], true) h := rfl
@[simp] theorem xemI : (evN K (n + 1)).e .emI env h = .ok (.dI [], true) h := rfl
@[simp] theorem xdI1 (k e : E) : (evN K (n + 1)).e (.dI1 k e) env h = ((evN K n).e k env h).nox.bind fun a h1 => ((evN K n).e e env h1).nox.bind fun b h2 => (match a.1 with | .int i => .ok (.dI [(i, b.1)], true) h2 | _ => .bad) := rfl
@[simp] theorem xxf (i k : Nat) : (evN K (n + 1)).e (.xf i k) env h = (match env[i]? with
    | some (some (.exc c fs)) => if c = 0 then .bad else opt h ((K.fld[c]?.bind fun l => l.findIdx? (· == k)).bind fun j => fs[j]?.map fun d => (d, false))
    | _ => .bad) := rfl
@[simp] theorem xxi (i c : Nat) : (evN K (n + 1)).e (.xi i c) env h = (match env[i]? with
    | some (some (.exc d _)) => if d = 0 then .bad else opt h (K.anc[d]?.map fun l => (.bl (l.contains c), false))
    | _ => .bad) := rfl
@[simp] theorem yrse (c : Nat) (es : List E) : (evN K (n + 1)).s (.rse c es) env h = (evL (evN K n) es env h).o env fun ds h1 => if ds.length = 1 then .exc ⟨c, ds⟩ env h1 else .bad := rfl
/-- behind a try's body -/
def O.hn (o : O) (f : Xc → Env → AH → O) : O := match o with
  | .exc x env h => f x env h
  | o => o
@[simp] theorem hn_exc (x : Xc) (env : Env) (h : AH) (f : Xc → Env → AH → O) : (O.exc x env h).hn f = f x env h := rfl
@[simp] theorem hn_nx (env : Env) (h : AH) (f : Xc → Env → AH → O) : (O.nx env h).hn f = .nx env h := rfl
@[simp] theorem hn_rt (d : D) (b : Bool) (h : AH) (f : Xc → Env → AH → O) : (O.rt d b h).hn f = .rt d b h := rfl
@[simp] theorem hn_bad (f : Xc → Env → AH → O) : (O.bad).hn f = .bad := rfl
@[simp] theorem ytry (b : List S) (hs : List Hn) : (evN K (n + 1)).s (.try b hs) env h = (ssEv (evN K n) b env h).hn fun x env h => hnEv K.anc (evN K n) x env h hs := by
  show sEv K (evN K n) (.try b hs) env h = _
  simp only [sEv]
  cases ssEv (evN K n) b env h <;> rfl
end
@[simp] theorem b_exc {α β : Type} (x : Xc) (h : AH) (f : α → AH → R β) : (R.exc x h : R α).bind f = .exc x h := rfl
@[simp] theorem o_exc {α : Type} (x : Xc) (h : AH) (env : Env) (f : α → AH → O) : (R.exc x h : R α).o env f = .exc x env h := rfl
@[simp] theorem o_bad {α : Type} (env : Env) (f : α → AH → O) : (R.bad : R α).o env f = .bad := rfl
@[simp] theorem t_exc (x : Xc) (env : Env) (h : AH) (f : Env → AH → O) : (O.exc x env h).then f = .exc x env h := rfl
@[simp] theorem l_exc (x : Xc) (env : Env) (h : AH) (f : Env → AH → O) : (O.exc x env h).loop f = .exc x env h := rfl
@[simp] theorem n_exc {α : Type} (x : Xc) (h : AH) : (R.exc x h : R α).nox = .bad := rfl
@[simp] theorem n_bad {α : Type} : (R.bad : R α).nox = .bad := rfl
@[simp] theorem opt_n {α : Type} (h : AH) : opt h (none : Option α) = .bad := rfl
theorem x_exc' (n : Nat) (x : Xc) (env : Env) (h : AH) : exitF n (.exc x env h) = if h.fl ≤ n ∧ topL x.fs = 0 then .exc x ⟨h.os.take n, h.fl⟩ else .bad := rfl
/-- an exception leaves a def that registered nothing -/
theorem leave_exc {x : Xc} {env : Env} {h : AH} {n : Nat} (hn : h.os.length = n) (hf : h.fl ≤ n) (ht : topL x.fs = 0) : exitF n (.exc x env h) = .exc x h := by
  rw [x_exc', if_pos ⟨hf, ht⟩, ← hn, List.take_length]
theorem if_len {α : Type} {p : Prop} [Decidable p] (hp : p) (a b : α) : (if p then a else b) = a := if_pos hp
end Rw
end

section
set_option Elab.async false
set_option linter.all false
set_option maxRecDepth 100000
set_option maxHeartbeats 4000000
/-! RfG: the stream of draws in the heap; loops by invariants. -/
namespace Rw
theorem leave_imm' {d : D} {f : Bool} {h : AH} {n : Nat} (hn : n = h.os.length) (e : d.top = 0) : leave n d f h = .ok (d, f) h := by
  subst hn
  exact leave_imm e
theorem topL_ints (ns : List Int) : topL (ns.map D.int) = 0 := by
  induction ns with
  | nil => rfl
  | cons n ns ih => simp [topL, D.top, ih]
/-- the heap with the stream at i -/
def stH (h : AH) (i : Nat) (ns : List Int) (c k : Int) : AH := ⟨h.os.set i (.lst [.lst (ns.map .int), .int c, .int k]), h.fl⟩
/-- the cell as it is mixed -/
def mixc (x p : Int) : Int := ((x * 48271 + p * 69621 + 11) % 2147483647 * 16807 + 13) % 2147483647 * 65537 + (x * 48271 + p * 69621 + 11) % 2147483647
theorem mixc_nn (x p : Int) : 0 ≤ mixc x p := by
  unfold mixc
  have a := Int.emod_nonneg (x * 48271 + p * 69621 + 11) (b := 2147483647) (by decide)
  have b := Int.emod_nonneg ((x * 48271 + p * 69621 + 11) % 2147483647 * 16807 + 13) (b := 2147483647) (by decide)
  omega
/-- the stream alone -/
def hS (ns : List Int) (c k : Int) : AH := ⟨[.lst [.lst (ns.map .int), .int c, .int k]], 0⟩
theorem for_inv {asg : D → Env → AH → R Env} {body : Env → AH → O} (I : Nat → Env → AH → Prop) : ∀ (xs : List D) (j : Nat) (env : Env) (h : AH),
    (∀ t x, xs[t]? = some x → ∀ env h, I (j + t) env h → ∃ e1 env' h', asg x env h = .ok e1 h ∧ body e1 h = .nx env' h' ∧ I (j + t + 1) env' h') → I j env h →
    ∃ env' h', forEv asg body xs env h = .nx env' h' ∧ I (j + xs.length) env' h'
  | [], j, env, h, _, i => ⟨env, h, rfl, i⟩
  | x :: xs, j, env, h, st, i => by
    obtain ⟨e1, env1, h1, a, b, c⟩ := st 0 x rfl env h i
    obtain ⟨env2, h2, d, e⟩ := for_inv I xs (j + 1) env1 h1 (fun t y hy env h i => by
      have := st (t + 1) y (by simpa using hy) env h (by rw [show j + (t + 1) = j + 1 + t from by omega]; exact i)
      rw [show j + (t + 1) + 1 = j + 1 + t + 1 from by omega] at this
      exact this) c
    refine ⟨env2, h2, ?_, by rw [List.length_cons, show j + (xs.length + 1) = j + 1 + xs.length from by omega]; exact e⟩
    unfold forEv
    rw [a, o_ok, b, l_nx, d]
/-- each turn ends in the next one's state, whatever it is -/
theorem for_all {asg : D → Env → AH → R Env} {body : Env → AH → O} (I : Env → AH → Prop) : ∀ (xs : List D) (env : Env) (h : AH),
    (∀ x ∈ xs, ∀ env h, I env h → ∃ e1 env' h', asg x env h = .ok e1 h ∧ body e1 h = .nx env' h' ∧ I env' h') → I env h →
    ∃ env' h', forEv asg body xs env h = .nx env' h' ∧ I env' h'
  | [], env, h, _, i => ⟨env, h, rfl, i⟩
  | x :: xs, env, h, st, i => by
    obtain ⟨e1, env1, h1, a, b, c⟩ := st x (List.mem_cons_self ..) env h i
    obtain ⟨env2, h2, d, e⟩ := for_all I xs env1 h1 (fun y hy => st y (List.mem_cons_of_mem _ hy)) c
    refine ⟨env2, h2, ?_, e⟩
    unfold forEv
    rw [a, o_ok, b, l_nx, d]
theorem leave_take {d : D} {f : Bool} {h : AH} {n : Nat} (hn : h.fl ≤ n) (e : d.top = 0) : leave n d f h = .ok (d, f) ⟨h.os.take n, h.fl⟩ := by
  unfold leave
  rw [if_pos hn, frz_top0 _ _ _ _ e, e, if_pos (Nat.zero_le _)]
  have fl : flat h.os n d = false := by
    cases d with
    | ref m => simp [D.top] at e
    | _ => rfl
  rw [fl, Bool.or_false]
theorem rgL_getX {a b : Int} {t : Nat} {x : D} (hx : (rgL a b)[t]? = some x) : t < (b - a).toNat ∧ x = .int (a + (t : Nat)) := by
  unfold rgL at hx
  rw [List.getElem?_map] at hx
  rcases Nat.lt_or_ge t (b - a).toNat with z | z
  · rw [List.getElem?_range z] at hx
    exact ⟨z, by simpa using hx.symm⟩
  · rw [List.getElem?_eq_none (by simpa using z)] at hx
    cases hx
theorem rgL_len (a b : Int) : (rgL a b).length = (b - a).toNat := by simp [rgL]
theorem rgL_mem {a b : Int} {x : D} (hx : x ∈ rgL a b) : ∃ i : Int, a ≤ i ∧ i < b ∧ x = .int i := by
  unfold rgL at hx
  obtain ⟨j, hj, rfl⟩ := List.mem_map.mp hx
  have := List.mem_range.mp hj
  exact ⟨a + (j : Nat), by omega, by omega, rfl⟩
/-- an item at a place that is drawn -/
theorem ix_lst {h : AH} {xs : List D} {v : Int} (h0 : 0 ≤ v) (h1 : v < xs.length) : ∃ d ∈ xs, ixEv h (.lst xs) (.int v) = some (d, false) := by
  have hlt : v.toNat < xs.length := by omega
  refine ⟨xs[v.toNat], List.getElem_mem hlt, ?_⟩
  have e : ixOf xs.length v = some v.toNat := by unfold ixOf; rw [if_pos h0, if_pos h1]
  simp [ixEv, ddOf, items, e, hlt]
end Rw
namespace Rw
/-- the block runs through, and then P -/
def Nx (o : O) (P : Env → AH → Prop) : Prop := match o with
  | .nx env h => P env h
  | _ => False
@[simp] theorem nx_nx (env : Env) (h : AH) (P : Env → AH → Prop) : Nx (.nx env h) P = P env h := rfl
theorem Nx.out {o : O} {P : Env → AH → Prop} (h : Nx o P) : ∃ env h, o = .nx env h ∧ P env h := by
  cases o <;> first | exact h.elim | exact ⟨_, _, rfl, h⟩
theorem for_nx {asg : D → Env → AH → R Env} {body : Env → AH → O} (I : Env → AH → Prop) {xs : List D} {env : Env} {h : AH}
    (st : ∀ x ∈ xs, ∀ env h, I env h → ∃ e1, asg x env h = .ok e1 h ∧ Nx (body e1 h) I) (i : I env h) : Nx (forEv asg body xs env h) I := by
  obtain ⟨e, h', q, z⟩ := for_all (asg := asg) (body := body) I xs env h (fun x hx env h i => by
    obtain ⟨e1, a, b⟩ := st x hx env h i
    obtain ⟨e2, h2, c, d⟩ := b.out
    exact ⟨e1, e2, h2, a, c, d⟩) i
  rw [q]; exact z
end Rw
end

section
set_option Elab.async false
set_option linter.all false
set_option maxRecDepth 100000
set_option maxHeartbeats 4000000
/-! RfN: comprehensions over typed items, as rewriting; forms of data. -/
namespace Rw
/-- the turns over items of any kind -/
def lcG {α β : Type} (body : α → AH → R (Option β)) : List α → AH → R (List β)
  | [], h => .ok [] h
  | x :: xs, h => (body x h).bind fun y h1 => (lcG body xs h1).bind fun ys h2 => .ok (match y with | some y => y :: ys | none => ys) h2
theorem lcG_map {α β : Type} (f : α → D) (body : D → AH → R (Option β)) : ∀ (xs : List α) (h : AH), lcEv body (xs.map f) h = lcG (fun a => body (f a)) xs h
  | [], _ => rfl
  | x :: xs, h => by
    unfold lcEv lcG
    rw [List.map_cons]
    simp only [lcEv]
    congr 1
    funext y h1
    rw [lcG_map f body xs h1]
    all_goals (cases y <;> rfl)
/-- what a turn gives -/
def gOf {β : Type} : R (Option β) → Option β
  | .ok y _ => y
  | _ => none
/-- .. where each turn leaves the heap as it is; b0: the turns from the heap h, with what is known of the item -/
noncomputable def lcK {α β : Type} (xs : List α) (b0 : (a : α) → a ∈ xs → R (Option β)) (body : α → AH → R (Option β)) (h : AH) : R (List β) :=
  open Classical in if ∀ a m, ∃ y, b0 a m = .ok y h then .ok (xs.filterMap fun a => if m : a ∈ xs then gOf (b0 a m) else none) h else lcG body xs h
theorem lcG_ok {α β : Type} {body : α → AH → R (Option β)} {h : AH} : ∀ {xs : List α}, (∀ a ∈ xs, ∃ y, body a h = .ok y h) → lcG body xs h = .ok (xs.filterMap fun a => gOf (body a h)) h
  | [], _ => rfl
  | x :: xs, e => by
    obtain ⟨y, ey⟩ := e x (List.mem_cons_self ..)
    unfold lcG
    rw [ey, b_ok, lcG_ok (xs := xs) fun a ha => e a (List.mem_cons_of_mem _ ha), b_ok, List.filterMap_cons, ey]
    cases y <;> rfl
theorem fm_congr {α β : Type} {g g' : α → Option β} : ∀ {xs : List α}, (∀ a ∈ xs, g a = g' a) → xs.filterMap g = xs.filterMap g'
  | [], _ => rfl
  | x :: xs, e => by
    rw [List.filterMap_cons, List.filterMap_cons, e x (List.mem_cons_self ..), fm_congr fun a ha => e a (List.mem_cons_of_mem _ ha)]
/-- each turn is looked at with what is known of its item -/
theorem lcK_of {α β : Type} (f : α → D) (body : D → AH → R (Option β)) (xs : List α) (h : AH) : lcEv body (xs.map f) h = lcK xs (fun a _ => body (f a) h) (fun a => body (f a)) h := by
  unfold lcK
  split
  · rename_i z
    rw [lcG_map, lcG_ok z]
    congr 1
    exact fm_congr fun a m => by rw [dif_pos m]
  · exact lcG_map f body xs h
theorem lcK_at {α β : Type} {xs : List α} {b0 : (a : α) → a ∈ xs → R (Option β)} {g : α → Option β} (body : α → AH → R (Option β)) {h : AH} (e : ∀ a m, b0 a m = .ok (g a) h) : lcK xs b0 body h = .ok (xs.filterMap g) h := by
  unfold lcK
  rw [if_pos fun a m => ⟨_, e a m⟩]
  congr 1
  exact fm_congr fun a m => by rw [dif_pos m, e a m]; rfl
@[simp] theorem lcK_ok {α β : Type} (g : α → Option β) (body : α → AH → R (Option β)) (xs : List α) (h : AH) : lcK xs (fun a _ => .ok (g a) h) body h = .ok (xs.filterMap g) h := lcK_at body fun _ _ => rfl
@[simp] theorem fm_some' {α β : Type} (g : α → β) (xs : List α) : xs.filterMap (fun x => some (g x)) = xs.map g := fm_some g xs
@[simp] theorem fm_ite {α β : Type} (p : α → Prop) [DecidablePred p] (g : α → β) (xs : List α) : xs.filterMap (fun x => if p x then some (g x) else none) = (xs.filter fun a => decide (p a)).map g := by
  induction xs with
  | nil => rfl
  | cons x xs ih =>
    rw [List.filterMap_cons, ih]
    by_cases q : p x <;> simp [q]
@[simp] theorem fm_iteN {α β : Type} (p : α → Prop) [DecidablePred p] (g : α → β) (xs : List α) : xs.filterMap (fun x => if p x then none else some (g x)) = (xs.filter fun a => !decide (p a)).map g := by
  induction xs with
  | nil => rfl
  | cons x xs ih =>
    rw [List.filterMap_cons, ih]
    by_cases q : p x <;> simp [q]
/-- the test's ends, where it is a bool -/
@[simp] theorem m_tru {α : Type} (b : Bool) (x y z : α) : (match some b with | some true => x | some false => y | none => z) = if b = true then x else y := by cases b <;> rfl
@[simp] theorem m_som {α : Type} (b : Bool) (f : Bool → α) (z : α) : (match some b with | some k => f k | none => z) = f b := rfl
theorem lcEv_len {β : Type} {body : D → AH → R (Option β)} : ∀ {xs : List D} {h h' : AH} {ys : List β}, lcEv body xs h = .ok ys h' → ys.length ≤ xs.length
  | [], h, h', ys, e => by cases e; exact Nat.le_refl _
  | x :: xs, h, h', ys, e => by
    unfold lcEv at e
    cases e1 : body x h with
    | ok y h1 =>
      rw [e1, b_ok] at e
      cases e2 : lcEv body xs h1 with
      | ok zs h2 =>
        rw [e2, b_ok] at e
        have := lcEv_len e2
        cases y <;> (cases e; simp; try omega)
      | exc _ _ => rw [e2] at e; cases e
      | bad => rw [e2] at e; cases e
    | exc _ _ => rw [e1] at e; cases e
    | bad => rw [e1] at e; cases e
def kLc2 (m : Nat) (ys : List D) (h : AH) : R DF := if m ≤ LN then .ok (.lst ys, true) h else .bad
@[simp] theorem kLc2_at (m : Nat) (ys : List D) (h : AH) : kLc2 m ys h = if m ≤ LN then .ok (.lst ys, true) h else .bad := rfl
def kLc1 (r : Ev) (t : T) (vs : List Nat) (c : Option E) (e : E) (env : Env) (xs : List D) (h : AH) : R DF := (lcEv (fun x h => (turnEv r t vs c e env x h).nox) xs h).bind (kLc2 xs.length)
@[simp] theorem kLc1_at (r : Ev) (t : T) (vs : List Nat) (c : Option E) (e : E) (env : Env) (xs : List D) (h : AH) : kLc1 r t vs c e env xs h = (lcEv (fun x h => (turnEv r t vs c e env x h).nox) xs h).bind (kLc2 xs.length) := rfl
section
variable {K : Kn} {n : Nat} {env : Env} {h : AH}
/-- a comprehension: the length of what is walked is enough -/
theorem xlc' (t : T) (vs : List Nat) (i : I) (c : Option E) (e : E) : (evN K (n + 1)).e (.lc t vs i c e) env h = (itEv (evN K n) i env h).bind (kLc1 (evN K n) t vs c e env) := by
  rw [xlc]
  congr 1
  funext xs h1
  unfold kLc1
  cases q : lcEv (fun x h => (turnEv (evN K n) t vs c e env x h).nox) xs h1 with
  | ok ys h2 =>
    rw [b_ok, b_ok]
    have := lcEv_len q
    unfold kLc2
    by_cases z : xs.length ≤ LN
    · rw [if_pos z, if_pos ⟨Nat.le_trans this z, z⟩]
    · rw [if_neg z, if_neg fun w => z w.2]
  | exc _ _ => rfl
  | bad => rfl
end
/-! ### operators at ints -/
@[simp] theorem bin_add (h : AH) (a b : Int) : binEv .add h (.int a) (.int b) = some (.int (a + b), false) := rfl
@[simp] theorem bin_sub (h : AH) (a b : Int) : binEv .sub h (.int a) (.int b) = some (.int (a - b), false) := rfl
@[simp] theorem bin_mulL (h : AH) {a : Int} (b : Int) (h0 : -18446744073709551616 < a) (h1 : a < 18446744073709551616) : binEv .mul h (.int a) (.int b) = some (.int (a * b), false) := by simp [binEv, small64, P64, h0, h1]
@[simp] theorem bin_mulR (h : AH) (a : Int) {b : Int} (h0 : -18446744073709551616 < b) (h1 : b < 18446744073709551616) : binEv .mul h (.int a) (.int b) = some (.int (a * b), false) := by simp [binEv, small64, P64, h0, h1]
@[simp] theorem bin_mod (h : AH) (a : Int) {b : Int} (h0 : 0 < b) : binEv .mod h (.int a) (.int b) = some (.int (a % b), false) := by simp [binEv, h0]
@[simp] theorem bin_fdiv (h : AH) (a : Int) {b : Int} (h0 : 0 < b) (h1 : b < 1000000000) : binEv .fdiv h (.int a) (.int b) = some (.int (a / b), false) := by
  have l : b.natAbs.log2 < 9000 := by
    have : b.natAbs.log2 < 64 := by
      by_cases z : b.natAbs = 0
      · rw [z]; decide
      · exact (Nat.log2_lt z).mpr (by omega)
    omega
  simp [binEv, h0, l]
@[simp] theorem cmp_lt (h : AH) (a b : Int) : cmpEv .lt h (.int a) (.int b) = some (decide (a < b)) := rfl
@[simp] theorem cmp_le (h : AH) (a b : Int) : cmpEv .le h (.int a) (.int b) = some (decide (a ≤ b)) := rfl
@[simp] theorem cmp_gt (h : AH) (a b : Int) : cmpEv .gt h (.int a) (.int b) = some (decide (b < a)) := rfl
@[simp] theorem cmp_ge (h : AH) (a b : Int) : cmpEv .ge h (.int a) (.int b) = some (decide (b ≤ a)) := rfl
@[simp] theorem cmp_eq (h : AH) (a b : Int) : cmpEv .eq h (.int a) (.int b) = some (a == b) := rfl
@[simp] theorem cmp_ne (h : AH) (a b : Int) : cmpEv .ne h (.int a) (.int b) = some (!(a == b)) := rfl
@[simp] theorem cmp_eqb (h : AH) (a b : Bool) : cmpEv .eq h (.bl a) (.bl b) = some (a == b) := rfl
@[simp] theorem cmp_neb (h : AH) (a b : Bool) : cmpEv .ne h (.bl a) (.bl b) = some (!(a == b)) := rfl
@[simp] theorem cmp_eqs (h : AH) (a b : List Nat) : cmpEv .eq h (.str a) (.str b) = some (a == b) := rfl
@[simp] theorem cmp_nes (h : AH) (a b : List Nat) : cmpEv .ne h (.str a) (.str b) = some (!(a == b)) := rfl
@[simp] theorem is_tup (h : AH) (xs : List D) : isiEv .tuple h (.tup xs) = some true := rfl
@[simp] theorem is_int (h : AH) (i : Int) : isiEv .int h (.int i) = some true := rfl
@[simp] theorem is_nbl (h : AH) (i : Int) : isiEv .bool h (.int i) = some false := rfl
@[simp] theorem bi_len (h : AH) (xs : List D) : biEv .len h [.tup xs] = some (.int xs.length, false) := rfl
@[simp] theorem bi_lenL (h : AH) (xs : List D) : biEv .len h [.lst xs] = some (.int xs.length, false) := rfl
@[simp] theorem bi_tupL (h : AH) (xs : List D) : biEv .tuple h [.lst xs] = some (.tup xs, false) := rfl
@[simp] theorem bi_tupT (h : AH) (xs : List D) : biEv .tuple h [.tup xs] = some (.tup xs, false) := rfl
@[simp] theorem bi_listL (h : AH) (xs : List D) : biEv .list h [.lst xs] = some (.lst xs, true) := rfl
@[simp] theorem bi_listT (h : AH) (xs : List D) : biEv .list h [.tup xs] = some (.lst xs, true) := rfl
@[simp] theorem bi_intb (h : AH) (b : Bool) : biEv .int h [.bl b] = some (.int (if b then 1 else 0), false) := rfl
@[simp] theorem bi_inti (h : AH) (i : Int) : biEv .int h [.int i] = some (.int i, false) := rfl
theorem allBl_map {α : Type} (p : α → Bool) : ∀ xs : List α, allBl (xs.map fun a => D.bl (p a)) = some (xs.map p)
  | [] => rfl
  | x :: xs => by simp [allBl, allBl_map p xs]
theorem allInt_map {α : Type} (p : α → Int) : ∀ xs : List α, allInt (xs.map fun a => D.int (p a)) = some (xs.map p)
  | [] => rfl
  | x :: xs => by simp [allInt, allInt_map p xs]
@[simp] theorem bi_all {α : Type} (h : AH) (p : α → Bool) (xs : List α) : biEv .all h [.lst (xs.map fun a => D.bl (p a))] = some (.bl (xs.all p), false) := by
  simp [biEv, litems, allBl_map]
@[simp] theorem bi_any {α : Type} (h : AH) (p : α → Bool) (xs : List α) : biEv .any h [.lst (xs.map fun a => D.bl (p a))] = some (.bl (xs.any p), false) := by
  simp [biEv, litems, allBl_map]
@[simp] theorem bi_sum {α : Type} (h : AH) (p : α → Int) (xs : List α) : biEv .sum h [.lst (xs.map fun a => D.int (p a))] = some (.int (xs.map p).sum, false) := by
  simp [biEv, litems, allInt_map]
/-! ### what is walked -/
def kSq (d : DF) (h : AH) : R (List D) := if imm d.1 then opt h (items h d.1) else .bad
@[simp] theorem kSq_at (d : DF) (h : AH) : kSq d h = if imm d.1 then opt h (items h d.1) else .bad := rfl
def kR1 (d : DF) (h : AH) : R (List D) := match d.1 with | .int n => if rgOk 0 n then .ok (rgL 0 n) h else .bad | _ => .bad
@[simp] theorem kR1_at (d : DF) (h : AH) : kR1 d h = (match d.1 with | .int n => if rgOk 0 n then .ok (rgL 0 n) h else .bad | _ => .bad) := rfl
def kR3 (d d2 : DF) (h : AH) : R (List D) := match d.1, d2.1 with | .int m, .int n => if rgOk m n then .ok (rgL m n) h else .bad | _, _ => .bad
@[simp] theorem kR3_at (d d2 : DF) (h : AH) : kR3 d d2 h = (match d.1, d2.1 with | .int m, .int n => if rgOk m n then .ok (rgL m n) h else .bad | _, _ => .bad) := rfl
def kR2 (r : Ev) (b : E) (env : Env) (d : DF) (h : AH) : R (List D) := (r.e b env h).bind (kR3 d)
@[simp] theorem kR2_at (r : Ev) (b : E) (env : Env) (d : DF) (h : AH) : kR2 r b env d h = (r.e b env h).bind (kR3 d) := rfl
def kEn (d : DF) (h : AH) : R (List D) := if imm d.1 then opt h ((items h d.1).map fun xs => enL xs 0) else .bad
@[simp] theorem kEn_at (d : DF) (h : AH) : kEn d h = if imm d.1 then opt h ((items h d.1).map fun xs => enL xs 0) else .bad := rfl
@[simp] theorem it_sq (r : Ev) (e : E) (env : Env) (h : AH) : itEv r (.sq e) env h = (r.e e env h).bind kSq := rfl
@[simp] theorem it_rg1 (r : Ev) (a : E) (env : Env) (h : AH) : itEv r (.rg1 a) env h = (r.e a env h).bind kR1 := rfl
@[simp] theorem it_rg2 (r : Ev) (a b : E) (env : Env) (h : AH) : itEv r (.rg2 a b) env h = (r.e a env h).bind (kR2 r b env) := rfl
@[simp] theorem it_en (r : Ev) (e : E) (env : Env) (h : AH) : itEv r (.en e) env h = (r.e e env h).bind kEn := rfl
@[simp] theorem imm_tup (xs : List D) : imm (.tup xs) = true := rfl
@[simp] theorem imm_lst (xs : List D) : imm (.lst xs) = true := rfl
@[simp] theorem items_tup (h : AH) (xs : List D) : items h (.tup xs) = some xs := rfl
@[simp] theorem items_lst (h : AH) (xs : List D) : items h (.lst xs) = some xs := rfl
/-- a range's places -/
theorem rgL_map (a b : Int) : rgL a b = (List.range (b - a).toNat).map fun i => D.int (a + (i : Nat)) := rfl
theorem enL_map {α : Type} (f : α → D) : ∀ (xs : List α) (n : Nat), enL (xs.map f) n = (xs.zipIdx n).map fun p => D.tup [.int (p.2 : Int), f p.1]
  | [], _ => rfl
  | x :: xs, n => by
    rw [List.map_cons, List.zipIdx_cons, List.map_cons]
    show D.tup [.int (n : Int), f x] :: enL (xs.map f) (n + 1) = _
    rw [enL_map f xs (n + 1)]
def kT3 (d : DF) (h : AH) : R (Option D) := .ok (some d.1) h
@[simp] theorem kT3_at (d : DF) (h : AH) : kT3 d h = .ok (some d.1) h := rfl
def kT2 (r : Ev) (e : E) (env : Env) (b : DF) (h : AH) : R (Option D) := onB (tru h b.1) ((r.e e env h).bind kT3) (.ok none h) .bad
@[simp] theorem kT2_at (r : Ev) (e : E) (env : Env) (b : DF) (h : AH) : kT2 r e env b h = onB (tru h b.1) ((r.e e env h).bind kT3) (.ok none h) .bad := rfl
def kT1 (r : Ev) (c : Option E) (e : E) (env : Env) (h : AH) : R (Option D) := match c with
  | none => (r.e e env h).bind kT3
  | some c => (r.e c env h).bind (kT2 r e env)
@[simp] theorem kT1_n (r : Ev) (e : E) (env : Env) (h : AH) : kT1 r none e env h = (r.e e env h).bind kT3 := rfl
@[simp] theorem kT1_s (r : Ev) (c : E) (e : E) (env : Env) (h : AH) : kT1 r (some c) e env h = (r.e c env h).bind (kT2 r e env) := rfl
/-- one turn, unfolded -/
theorem turn_def (r : Ev) (t : T) (vs : List Nat) (c : Option E) (e : E) (env : Env) (x : D) (h : AH) : turnEv r t vs c e env x h = (asgT r 4 t x (wipeE env vs) h).bind (kT1 r c e) := by
  cases c <;> rfl
def kAs (f : T → D → Env → AH → R Env) (ts : List T) (xs : List D) (env : Env) (h : AH) : R Env := asgL f ts xs env h
@[simp] theorem kAs_at (f : T → D → Env → AH → R Env) (ts : List T) (xs : List D) (env : Env) (h : AH) : kAs f ts xs env h = asgL f ts xs env h := rfl
@[simp] theorem asg_nm (r : Ev) (k i : Nat) (d : D) (env : Env) (h : AH) : asgT r (k + 1) (.nm i) d env h = if i < env.length then .ok (env.set i (some d)) h else .bad := rfl
@[simp] theorem asg_tp (r : Ev) (k : Nat) (ts : List T) (d : D) (env : Env) (h : AH) : asgT r (k + 1) (.tp ts) d env h = (match tems d with | some xs => if xs.length = ts.length then asgL (asgT r k) ts xs env h else .bad | none => .bad) := rfl
@[simp] theorem asgL_nil (f : T → D → Env → AH → R Env) (env : Env) (h : AH) : asgL f [] [] env h = .ok env h := rfl
@[simp] theorem asgL_cons (f : T → D → Env → AH → R Env) (t : T) (ts : List T) (x : D) (xs : List D) (env : Env) (h : AH) : asgL f (t :: ts) (x :: xs) env h = (f t x env h).bind (kAs f ts xs) := rfl
@[simp] theorem tems_tup (xs : List D) : tems (.tup xs) = some xs := rfl
@[simp] theorem tems_lst (xs : List D) : tems (.lst xs) = some xs := rfl
@[simp] theorem wipe_nil (env : Env) : wipeE env [] = env := rfl
@[simp] theorem wipe_cons (env : Env) (v : Nat) (vs : List Nat) : wipeE env (v :: vs) = (wipeE env vs).set v none := rfl
@[simp 1100] theorem if_andP {P : Prop} [Decidable P] (c : Bool) (h : AH) : (if P then R.ok (D.bl c, false) h else R.ok (D.bl false, false) h) = R.ok (.bl (decide P && c), false) h := by by_cases q : P <;> simp [q]
@[simp 1100] theorem if_andD {P : Prop} [Decidable P] (c : Bool) (h : AH) : (if P then R.ok (D.bl c, false) h else R.ok (D.bl (decide P), false) h) = R.ok (.bl (decide P && c), false) h := by by_cases q : P <;> simp [q]
@[simp 1100] theorem if_orP {P : Prop} [Decidable P] (c : Bool) (h : AH) : (if P then R.ok (D.bl true, false) h else R.ok (D.bl c, false) h) = R.ok (.bl (decide P || c), false) h := by by_cases q : P <;> simp [q]
@[simp 1100] theorem if_orD {P : Prop} [Decidable P] (c : Bool) (h : AH) : (if P then R.ok (D.bl (decide P), false) h else R.ok (D.bl c, false) h) = R.ok (.bl (decide P || c), false) h := by by_cases q : P <;> simp [q]
@[simp 1100] theorem if_andB (b c : Bool) (h : AH) : (if b = true then R.ok (D.bl c, false) h else R.ok (D.bl b, false) h) = R.ok (.bl (b && c), false) h := by cases b <;> rfl
@[simp 1100] theorem if_orB (b c : Bool) (h : AH) : (if b = true then R.ok (D.bl b, false) h else R.ok (D.bl c, false) h) = R.ok (.bl (b || c), false) h := by cases b <;> rfl
@[simp] theorem if_ok {p : Prop} [Decidable p] {α : Type} (a b : α) (h : AH) : (if p then R.ok a h else R.ok b h) = R.ok (if p then a else b) h := by split <;> rfl
@[simp] theorem if_nox {p : Prop} [Decidable p] {α : Type} (a b : R α) : (if p then a else b).nox = if p then a.nox else b.nox := by split <;> rfl
end Rw
end

section
set_option Elab.async false
set_option linter.all false
set_option maxRecDepth 100000
set_option maxHeartbeats 4000000
/-! RfD: forms of data, ranges, draws. -/
namespace Rw
/-- a road, roads, a net, a tuple of ints -/
abbrev rd (r : Int × Int × Int) : D := .tup [.int r.1, .int r.2.1, .int r.2.2]
abbrev rds (rs : List (Int × Int × Int)) : D := .tup (rs.map rd)
abbrev netD (p : Int) (rs : List (Int × Int × Int)) : D := .tup [.int p, rds rs]
abbrev tint (f : List Int) : D := .tup (f.map .int)
@[simp] theorem beq_ffI {x y : Int} (h : ¬ x = y) : (x == y) = false := by simpa using h
@[simp] theorem le_LN {n : Nat} (h : n ≤ 1000) : n ≤ LN := Nat.le_trans h (by decide)
/-! ### ranges -/
def rgI (a b : Int) : List Int := (List.range (b - a).toNat).map fun i => a + (i : Nat)
theorem mem_rgI {a b i : Int} : i ∈ rgI a b ↔ a ≤ i ∧ i < b := by
  unfold rgI
  rw [List.mem_map]
  constructor
  · rintro ⟨j, hj, rfl⟩
    have := List.mem_range.mp hj
    omega
  · intro ⟨x, y⟩
    exact ⟨(i - a).toNat, List.mem_range.mpr (by omega), by omega⟩
theorem rgI_len (a b : Int) : (rgI a b).length = (b - a).toNat := by simp [rgI]
theorem rgL_I (a b : Int) : rgL a b = (rgI a b).map .int := by
  unfold rgL rgI
  rw [List.map_map]
  rfl
theorem rgI_nil {a b : Int} (h : b ≤ a) : rgI a b = [] := by
  unfold rgI
  rw [show (b - a).toNat = 0 from by omega]
  rfl
theorem rgI_cons {a b : Int} (h : a < b) : rgI a b = a :: rgI (a + 1) b := by
  unfold rgI
  rw [show (b - a).toNat = (b - (a + 1)).toNat + 1 from by omega, List.range_succ_eq_map, List.map_cons, List.map_map]
  congr 1
  · simp
  · apply List.map_congr_left
    intro i _
    simp
    omega
theorem rgI_snoc {a b : Int} (h : a ≤ b) : rgI a (b + 1) = rgI a b ++ [b] := by
  unfold rgI
  rw [show (b + 1 - a).toNat = (b - a).toNat + 1 from by omega, List.range_succ, List.map_append]
  congr 1
  simp
  omega
/-- the turns over a range -/
noncomputable def lcR {β : Type} (a b : Int) (b0 : (i : Int) → a ≤ i → i < b → R (Option β)) (body : D → AH → R (Option β)) (h : AH) : R (List β) :=
  lcK (rgI a b) (fun i m => b0 i (mem_rgI.mp m).1 (mem_rgI.mp m).2) (fun i => body (.int i)) h
theorem lcR_at {β : Type} {a b : Int} {b0 : (i : Int) → a ≤ i → i < b → R (Option β)} {g : Int → Option β} (body : D → AH → R (Option β)) {h : AH} (e : ∀ i x y, b0 i x y = .ok (g i) h) : lcR a b b0 body h = .ok ((rgI a b).filterMap g) h :=
  lcK_at _ fun i m => e i _ _
theorem lcR_of {β : Type} (body : D → AH → R (Option β)) (a b : Int) (h : AH) : lcEv body (rgL a b) h = lcR a b (fun i _ _ => body (.int i) h) body h := by
  rw [rgL_I, lcK_of]
  rfl
@[simp] theorem lcR_ok {β : Type} (g : Int → Option β) (body : D → AH → R (Option β)) (a b : Int) (h : AH) : lcR a b (fun i _ _ => .ok (g i) h) body h = .ok ((rgI a b).filterMap g) h := lcR_at body fun _ _ _ => rfl
/-! ### places -/
def at' {α : Type} [Inhabited α] (xs : List α) (i : Int) : α := xs.getD i.toNat default
theorem at_mem {α : Type} [Inhabited α] {xs : List α} {i : Int} (h0 : 0 ≤ i) (h1 : i < xs.length) : at' xs i ∈ xs := by
  unfold at'
  have : i.toNat < xs.length := by omega
  simp [List.getD, this]
theorem ixOf_at {n : Nat} {i : Int} (h0 : 0 ≤ i) (h1 : i < n) : ixOf n i = some i.toNat := by
  unfold ixOf
  rw [if_pos h0, if_pos h1]
theorem ix_tm {α : Type} [Inhabited α] {h : AH} {f : α → D} {xs : List α} {i : Int} (h0 : 0 ≤ i) (h1 : i < xs.length) : ixEv h (.tup (xs.map f)) (.int i) = some (f (at' xs i), false) := by
  have : i.toNat < xs.length := by omega
  have e : ixOf (xs.map f).length i = some i.toNat := by rw [List.length_map]; exact ixOf_at h0 h1
  simp only [ixEv, ddOf, items, Option.bind_some, e]
  simp [this, at', List.getD]
theorem ix_lm {α : Type} [Inhabited α] {h : AH} {f : α → D} {xs : List α} {i : Int} (h0 : 0 ≤ i) (h1 : i < xs.length) : ixEv h (.lst (xs.map f)) (.int i) = some (f (at' xs i), false) := by
  have : i.toNat < xs.length := by omega
  have e : ixOf (xs.map f).length i = some i.toNat := by rw [List.length_map]; exact ixOf_at h0 h1
  simp only [ixEv, ddOf, items, Option.bind_some, e]
  simp [this, at', List.getD]
theorem ixOf_lit (n : Nat) (h : 0 < n) : ixOf n 0 = some 0 := ixOf_at (by omega) (by omega)
@[simp] theorem ix_t0 (h : AH) (x : D) (xs : List D) : ixEv h (.tup (x :: xs)) (.int 0) = some (x, false) := by
  simp only [ixEv, ddOf, items, Option.bind_some, ixOf_lit _ (Nat.succ_pos xs.length), List.length_cons]
  rfl
@[simp] theorem ix_t1 (h : AH) (x y : D) (xs : List D) : ixEv h (.tup (x :: y :: xs)) (.int 1) = some (y, false) := by
  simp only [ixEv, ddOf, items, Option.bind_some, List.length_cons, ixOf_at (n := xs.length + 1 + 1) (i := 1) (by omega) (by omega)]
  rfl
@[simp] theorem ix_t2 (h : AH) (x y z : D) (xs : List D) : ixEv h (.tup (x :: y :: z :: xs)) (.int 2) = some (z, false) := by
  simp only [ixEv, ddOf, items, Option.bind_some, List.length_cons, ixOf_at (n := xs.length + 1 + 1 + 1) (i := 2) (by omega) (by omega)]
  rfl
@[simp] theorem ix_l0 (h : AH) (x : D) (xs : List D) : ixEv h (.lst (x :: xs)) (.int 0) = some (x, false) := by
  simp only [ixEv, ddOf, items, Option.bind_some, ixOf_lit _ (Nat.succ_pos xs.length), List.length_cons]
  rfl
@[simp] theorem ix_l1 (h : AH) (x y : D) (xs : List D) : ixEv h (.lst (x :: y :: xs)) (.int 1) = some (y, false) := by
  simp only [ixEv, ddOf, items, Option.bind_some, List.length_cons, ixOf_at (n := xs.length + 1 + 1) (i := 1) (by omega) (by omega)]
  rfl
/-! ### the stream -/
/-- the stream's state -/
structure St where
  ns : List Int
  c : Int
  p : Int
  hc : 0 ≤ c
  hp : 0 ≤ p
def St.ob (s : St) : Ob := .lst [.lst (s.ns.map .int), .int s.c, .int s.p]
/-- the heap: the stream, and what else -/
abbrev hU (s : St) (os : List Ob) (fl : Nat) : AH := ⟨s.ob :: os, fl⟩
def St.cell (s : St) : Int := if s.p < s.ns.length then (if s.ns[s.p.toNat]?.getD 0 < 0 then -s.ns[s.p.toNat]?.getD 0 else s.ns[s.p.toNat]?.getD 0) else 7 + s.p
theorem St.cell_nn (s : St) : 0 ≤ s.cell := by
  have := s.hp
  unfold St.cell
  split
  · split <;> omega
  · omega
def St.C (s : St) : Int := if s.c = 0 then (if s.cell < 1000000000000000000 then mixc s.cell s.p else s.cell) else s.c
def St.P (s : St) : Int := if s.c = 0 then s.p + 1 else s.p
theorem St.C_nn (s : St) : 0 ≤ s.C := by
  have := s.hc
  have := s.cell_nn
  unfold St.C
  split
  · split
    · exact mixc_nn _ _
    · omega
  · omega
theorem St.P_nn (s : St) : 0 ≤ s.P := by
  have := s.hp
  unfold St.P
  split <;> omega
/-- what is drawn, and the state behind it -/
def St.vl (s : St) (m : Int) : Int := s.C % m
def St.nx (s : St) (m : Int) : St := ⟨s.ns, s.C / (m.natAbs : Int), s.P, Int.ediv_nonneg s.C_nn (by omega), s.P_nn⟩
@[simp] theorem St.nx_ns (s : St) (m : Int) : (s.nx m).ns = s.ns := rfl
theorem St.vl_nn (s : St) {m : Int} (h : 0 < m) : 0 ≤ s.vl m := Int.emod_nonneg _ (by omega)
theorem St.vl_lt (s : St) {m : Int} (h : 0 < m) : s.vl m < m := Int.emod_lt_of_pos _ h
end Rw
namespace Rw
/-! ### nets -/
def isLk (p : Int) (r : Int × Int × Int) : Bool := decide (1 ≤ r.2.2) && decide (r.2.2 ≤ 6) && decide (0 ≤ r.1) && decide (r.1 ≤ p - 1) && decide (0 ≤ r.2.1) && decide (r.2.1 ≤ p - 1) && decide (r.1 < r.2.1)
/-- ahead of -/
def prLt (r q : Int × Int × Int) : Bool := decide (r.1 < q.1) || (r.1 == q.1 && decide (r.2.1 < q.2.1))
def areLks (p : Int) (rs : List (Int × Int × Int)) (m : Int) : Bool := decide ((rs.length : Int) ≤ m) && rs.all (isLk p) && (rgI 0 ((rs.length : Int) - 1)).all fun i => prLt (at' rs i) (at' rs (i + 1))
theorem sl_rd (h : AH) (r : Int × Int × Int) : slEv h (rd r) none (some 2) = some (.tup [.int r.1, .int r.2.1], false) := rfl
theorem cmp_pr (h : AH) (r q : Int × Int × Int) : cmpEv .lt h (.tup [.int r.1, .int r.2.1]) (.tup [.int q.1, .int q.2.1]) = some (prLt r q) := by
  simp only [cmpEv, D.plain, plK, List.all_cons, List.all_nil, Bool.and_true, dalike, dalikeL, dlt, dltL, deq, prLt]
  by_cases e : r.1 = q.1 <;> by_cases e2 : r.2.1 = q.2.1 <;> simp [e, e2]
def isNt (p : Int) (rs : List (Int × Int × Int)) : Bool := decide (2 ≤ p) && decide (p ≤ 7) && areLks p rs 15
theorem areLks_len {p : Int} {rs : List (Int × Int × Int)} {m : Int} (g : areLks p rs m = true) (hm : m ≤ 1000) : rs.length ≤ 1000 := by
  simp only [areLks, Bool.and_eq_true, decide_eq_true_eq] at g
  omega
theorem isNt_len {p : Int} {rs : List (Int × Int × Int)} (g : isNt p rs = true) : rs.length ≤ 1000 := by
  simp only [isNt, Bool.and_eq_true, decide_eq_true_eq] at g
  exact areLks_len g.2 (by decide)
def isSd (p : Int) (f : List Int) : Bool := decide (0 < (f.length : Int)) && decide ((f.length : Int) < p) && f.all (fun x => decide (0 ≤ x) && decide (x ≤ p - 1)) && (rgI 0 ((f.length : Int) - 1)).all fun i => decide (at' f i < at' f (i + 1))
def isFn (p : Int) (f : List Int) : Bool := isSd p f && !(at' f 0 == 0)
theorem isFn_sd {p : Int} {f : List Int} (g : isFn p f = true) : isSd p f = true ∧ (at' f 0 == 0) = false ∧ (0 : Int) < f.length := by
  simp only [isFn, Bool.and_eq_true, Bool.not_eq_true'] at g
  refine ⟨g.1, g.2, ?_⟩
  have := g.1
  simp only [isSd, Bool.and_eq_true, decide_eq_true_eq] at this
  exact this.1.1.1
theorem top_tint (f : List Int) : (tint f).top = 0 := topL_ints f
theorem topL_tints (fs : List (List Int)) : topL (fs.map tint) = 0 := by
  induction fs with
  | nil => rfl
  | cons f fs ih =>
    show max (tint f).top (topL (fs.map tint)) = 0
    rw [top_tint, ih]
    rfl
/-! ### fences -/
def fcsN : Nat → Int → List (List Int)
  | 0, _ => []
  | n + 1, a => [a] :: ((fcsN n (a + 1)).map (a :: ·) ++ fcsN n (a + 1))
/-- all fences of so many points, in order -/
def fcs (p : Int) : List (List Int) := fcsN (p - 1).toNat 1
theorem fcsN_mem : ∀ (n : Nat) (a : Int) (f : List Int), f ∈ fcsN n a ↔ f ≠ [] ∧ f.Pairwise (· < ·) ∧ ∀ x ∈ f, a ≤ x ∧ x < a + n
  | 0, a, f => by
    simp only [fcsN, List.not_mem_nil, false_iff]
    rintro ⟨h, -, z⟩
    cases f with
    | nil => exact h rfl
    | cons x f => have := z x (List.mem_cons_self ..); omega
  | n + 1, a, f => by
    simp only [fcsN, List.mem_cons, List.mem_append, List.mem_map]
    have ih := fcsN_mem n (a + 1)
    constructor
    · rintro (rfl | ⟨g, hg, rfl⟩ | hf)
      · refine ⟨by simp, by simp, fun x hx => ?_⟩
        simp at hx; omega
      · obtain ⟨h1, h2, h3⟩ := (ih g).mp hg
        refine ⟨by simp, List.pairwise_cons.mpr ⟨fun x hx => by have := h3 x hx; omega, h2⟩, fun x hx => ?_⟩
        rcases List.mem_cons.mp hx with rfl | hx
        · omega
        · have := h3 x hx; omega
      · obtain ⟨h1, h2, h3⟩ := (ih f).mp hf
        exact ⟨h1, h2, fun x hx => by have := h3 x hx; omega⟩
    · rintro ⟨h1, h2, h3⟩
      cases f with
      | nil => exact (h1 rfl).elim
      | cons x f =>
        obtain ⟨c1, c2⟩ := List.pairwise_cons.mp h2
        by_cases hx : x = a
        · subst hx
          by_cases hf : f = []
          · subst hf; exact .inl rfl
          · refine .inr (.inl ⟨f, (ih f).mpr ⟨hf, c2, fun y hy => ?_⟩, rfl⟩)
            have := c1 y hy
            have := h3 y (List.mem_cons_of_mem _ hy)
            omega
        · refine .inr (.inr ((ih (x :: f)).mpr ⟨by simp, h2, fun y hy => ?_⟩))
          have h4 := h3 x (List.mem_cons_self ..)
          have h5 := h3 y hy
          rcases List.mem_cons.mp hy with rfl | hy
          · omega
          · have := c1 y hy; omega
/-- a fence crosses a road; a fence's width -/
def crs (f : List Int) (r : Int × Int × Int) : Bool := decide (r.1 ∈ f) != decide (r.2.1 ∈ f)
def wid (rs : List (Int × Int × Int)) (f : List Int) : Int := ((rs.filter (crs f)).map fun r => r.2.2).sum
def roomN (rs ws : List (Int × Int × Int)) (f : List Int) : Int := wid rs f - wid ws f
/-- the sum at a point -/
def satN (rs : List (Int × Int × Int)) (x : Int) : Int := ((rs.filter fun r => decide (x = r.1) || decide (x = r.2.1)).map fun r => r.2.2).sum
/-- a loop that returns at the first item of a kind -/
theorem for_find {α : Type} {asg : D → Env → AH → R Env} {body : Env → AH → O} {h : AH} (f : α → D) (p : α → Bool) (r : α → D) (fl : Bool) (I : Env → Prop) : ∀ (xs : List α) (env : Env),
    (∀ a ∈ xs, ∀ env, I env → ∃ e1, asg (f a) env h = .ok e1 h ∧ ((p a = true ∧ body e1 h = .rt (r a) fl h) ∨ (p a = false ∧ ∃ e2, body e1 h = .nx e2 h ∧ I e2))) → I env →
    (∃ a, xs.find? p = some a ∧ forEv asg body (xs.map f) env h = .rt (r a) fl h) ∨ (xs.find? p = none ∧ ∃ e2, forEv asg body (xs.map f) env h = .nx e2 h ∧ I e2)
  | [], env, _, i => .inr ⟨rfl, env, rfl, i⟩
  | x :: xs, env, st, i => by
    obtain ⟨e1, q1, q2⟩ := st x (List.mem_cons_self ..) env i
    rw [List.map_cons]
    unfold forEv
    rw [q1, o_ok]
    rcases q2 with ⟨t, q⟩ | ⟨t, e2, q, j⟩
    · exact .inl ⟨x, by simp [t], by rw [q, l_rt]⟩
    · rw [q, l_nx, List.find?_cons, t]
      exact for_find f p r fl I xs e2 (fun a ha => st a (List.mem_cons_of_mem _ ha)) j
/-- a fence or None -/
def optD : Option (List Int) → D
  | some f => tint f
  | none => .non
theorem optD_top (o : Option (List Int)) : (optD o).top = 0 := by
  cases o with
  | none => rfl
  | some f => exact top_tint f
theorem in_pr (h : AH) (x a b : Int) : inEv h (.int x) (.tup [.int a, .int b]) = some (decide (x = a) || decide (x = b)) := by
  have := in_ints h x [a, b]
  simp only [List.map_cons, List.map_nil] at this
  rw [this]
  simp
theorem areLks_lenN {p : Int} {rs : List (Int × Int × Int)} {m : Int} (g : areLks p rs m = true) (hm : m ≤ 1000) : rs.length ≤ LN := Nat.le_trans (areLks_len g hm) (by decide)
theorem isNt_lenN {p : Int} {rs : List (Int × Int × Int)} (g : isNt p rs = true) : rs.length ≤ LN := Nat.le_trans (isNt_len g) (by decide)
theorem isNt_2 {p : Int} {rs : List (Int × Int × Int)} (g : isNt p rs = true) : 2 ≤ p := by
  simp only [isNt, Bool.and_eq_true, decide_eq_true_eq] at g
  exact g.1.1
theorem isNt_7 {p : Int} {rs : List (Int × Int × Int)} (g : isNt p rs = true) : p ≤ 7 := by
  simp only [isNt, Bool.and_eq_true, decide_eq_true_eq] at g
  exact g.1.2
theorem isNt_k {p : Int} {rs : List (Int × Int × Int)} (g : isNt p rs = true) : p ≤ 1000 := by have := isNt_7 g; omega
theorem isNt_rg {p : Int} {rs : List (Int × Int × Int)} (g : isNt p rs = true) : rgOk 0 p = true := by
  have := isNt_7 g
  have := isNt_2 g
  simp [rgOk]; omega
theorem isNt_rgl {p : Int} {rs : List (Int × Int × Int)} (g : isNt p rs = true) : (rgL 0 p).length ≤ LN := by
  have := isNt_7 g
  rw [rgL_len]; simp [LN]; omega
theorem fcsN_len : ∀ (n : Nat) (a : Int), (fcsN n a).length + 1 = 2 ^ n
  | 0, _ => rfl
  | n + 1, a => by
    have ih := fcsN_len n (a + 1)
    simp only [fcsN, List.length_cons, List.length_append, List.length_map]
    rw [Nat.pow_succ]
    omega
theorem fcs_len {p : Int} {rs : List (Int × Int × Int)} (g : isNt p rs = true) : (fcs p).length ≤ LN := by
  have := isNt_7 g
  have l := fcsN_len (p - 1).toNat 1
  have : 2 ^ (p - 1).toNat ≤ 2 ^ 6 := Nat.pow_le_pow_right (by decide) (by omega)
  have : (fcs p).length < 2 ^ 6 := by unfold fcs; omega
  simp [LN]; omega
@[simp] theorem cmp_in (h : AH) (x y : D) : cmpEv .in_ h x y = inEv h x y := rfl
@[simp] theorem cmp_ninT (h : AH) (x : D) (ys : List D) : cmpEv .nin h x (.tup ys) = (inEv h x (.tup ys)).map fun b => !b := rfl
@[simp] theorem cmp_ninL (h : AH) (x : D) (ys : List D) : cmpEv .nin h x (.lst ys) = (inEv h x (.lst ys)).map fun b => !b := rfl
/-! ### what the law's comparison takes as equal -/
def lsD (h : AH) : D → Option (List D)
  | .lst xs => some xs
  | .ref n => match h.os[n]? with
    | some (.lst xs) => some xs
    | _ => none
  | _ => none
def all2 (p : D → D → Bool) : List D → List D → Bool
  | [], [] => true
  | x :: xs, y :: ys => p x y && all2 p xs ys
  | _, _ => false
def Sm (h : AH) : Nat → D → D → Bool
  | 0, _, _ => false
  | n + 1, a, b => match b with
    | .non => (match a with | .non => true | _ => false)
    | .bl y => (match a with | .bl x => x == y | _ => false)
    | .int y => (match a with | .int x => x == y | _ => false)
    | .str y => (match a with | .str x => x == y | _ => false)
    | .tup ys => (match a with | .tup xs => decide (ys.length ≤ 1000) && all2 (Sm h n) xs ys | _ => false)
    | b => (match lsD h a, lsD h b with | some xs, some ys => decide (ys.length ≤ 1000) && all2 (Sm h n) xs ys | _, _ => false)
instance : Inhabited D := ⟨.non⟩
theorem ix_tup {h : AH} {xs : List D} {i : Int} (h0 : 0 ≤ i) (h1 : i < xs.length) : ixEv h (.tup xs) (.int i) = some (at' xs i, false) := by
  have := ix_tm (h := h) (f := id) h0 h1
  rwa [List.map_id] at this
theorem lsD_cs {h : AH} {a : D} {xs : List D} (q : lsD h a = some xs) : a = .lst xs ∨ ∃ n, a = .ref n ∧ h.os[n]? = some (.lst xs) := by
  cases a with
  | lst ys => cases q; exact .inl rfl
  | ref n =>
    refine .inr ⟨n, rfl, ?_⟩
    cases e : h.os[n]? with
    | none => simp [lsD, e] at q
    | some o => cases o <;> simp [lsD, e] at q <;> simp [q]
  | _ => cases q
theorem ix_lsD {h : AH} {a : D} {xs : List D} (q : lsD h a = some xs) {i : Int} (h0 : 0 ≤ i) (h1 : i < xs.length) : ixEv h a (.int i) = some (at' xs i, false) := by
  have e : ixOf xs.length i = some i.toNat := ixOf_at h0 h1
  have z : i.toNat < xs.length := by omega
  rcases lsD_cs q with rfl | ⟨n, rfl, hy⟩
  · simp [ixEv, ddOf, items, e, z, at', List.getD]
  · simp [ixEv, ddOf, items, hy, e, z, at', List.getD]
theorem isi_lsD {h : AH} {a : D} {xs : List D} (q : lsD h a = some xs) (c : Cl) : isiEv c h a = some (match c with | .list => true | _ => false) := by
  rcases lsD_cs q with rfl | ⟨n, rfl, hy⟩
  · cases c <;> rfl
  · cases c <;> simp [isiEv, hy]
theorem len_lsD {h : AH} {a : D} {xs : List D} (q : lsD h a = some xs) : biEv .len h [a] = some (.int xs.length, false) := by
  rcases lsD_cs q with rfl | ⟨n, rfl, hy⟩
  · rfl
  · simp [biEv, items, hy]
theorem non_lsD {h : AH} {a : D} {xs : List D} (q : lsD h a = some xs) : cmpEv .is_ h a .non = some false := by
  rcases lsD_cs q with rfl | ⟨n, rfl, hy⟩
  · rfl
  · simp [cmpEv, isNon, hy]
theorem all2_len {p : D → D → Bool} : ∀ {xs ys : List D}, all2 p xs ys = true → xs.length = ys.length
  | [], [], _ => rfl
  | x :: xs, y :: ys, e => by
    simp only [all2, Bool.and_eq_true] at e
    rw [List.length_cons, List.length_cons, all2_len e.2]
theorem all2_nat {p : D → D → Bool} : ∀ {xs ys : List D}, all2 p xs ys = true → ∀ i : Nat, i < ys.length → p (xs.getD i default) (ys.getD i default) = true
  | [], [], _, i, h => by cases h
  | x :: xs, y :: ys, e, i, h => by
    simp only [all2, Bool.and_eq_true] at e
    cases i with
    | zero => exact e.1
    | succ i => exact all2_nat e.2 i (by simpa using h)
theorem all2_at {p : D → D → Bool} {xs ys : List D} (e : all2 p xs ys = true) {i : Int} (h0 : 0 ≤ i) (h1 : i < ys.length) : p (at' xs i) (at' ys i) = true :=
  all2_nat e i.toNat (by omega)
theorem Sm_tup (h : AH) (n : Nat) (xs ys : List D) : Sm h (n + 1) (.tup xs) (.tup ys) = (decide (ys.length ≤ 1000) && all2 (Sm h n) xs ys) := rfl
theorem Sm_lst (h : AH) (n : Nat) (xs ys : List D) : Sm h (n + 1) (.lst xs) (.lst ys) = (decide (ys.length ≤ 1000) && all2 (Sm h n) xs ys) := rfl
theorem Sm_ref (h : AH) (n i : Nat) (xs ys : List D) (e : h.os[i]? = some (.lst xs)) : Sm h (n + 1) (.ref i) (.lst ys) = (decide (ys.length ≤ 1000) && all2 (Sm h n) xs ys) := by
  have q : lsD h (.ref i) = some xs := by simp only [lsD, e]
  show (match lsD h (.ref i), lsD h (.lst ys) with | some xs, some ys => decide (ys.length ≤ 1000) && all2 (Sm h n) xs ys | _, _ => false) = _
  rw [q]
  rfl
@[simp] theorem Sm_int (h : AH) (n : Nat) (x y : Int) : Sm h (n + 1) (.int x) (.int y) = (x == y) := rfl
@[simp] theorem Sm_bl (h : AH) (n : Nat) (x y : Bool) : Sm h (n + 1) (.bl x) (.bl y) = (x == y) := rfl
@[simp] theorem Sm_str (h : AH) (n : Nat) (x y : List Nat) : Sm h (n + 1) (.str x) (.str y) = (x == y) := rfl
@[simp] theorem Sm_non (h : AH) (n : Nat) : Sm h (n + 1) .non .non = true := rfl
@[simp] theorem all2_nil (p : D → D → Bool) : all2 p [] [] = true := rfl
@[simp] theorem all2_cons (p : D → D → Bool) (x y : D) (xs ys : List D) : all2 p (x :: xs) (y :: ys) = (p x y && all2 p xs ys) := rfl
theorem all2_map {α : Type} (p : D → D → Bool) (f g : α → D) : ∀ xs : List α, all2 p (xs.map f) (xs.map g) = xs.all fun a => p (f a) (g a)
  | [] => rfl
  | x :: xs => by simp [all2, all2_map p f g xs]
theorem Sm_tint (h : AH) (n : Nat) (f : List Int) (hl : f.length ≤ 1000) : Sm h (n + 2) (tint f) (tint f) = true := by
  rw [Sm_tup, all2_map]
  simp [hl]
theorem Sm_fncs (h : AH) (n : Nat) (fs : List (List Int)) (hl : fs.length ≤ 1000) (hf : ∀ f ∈ fs, f.length ≤ 1000) : Sm h (n + 3) (.lst (fs.map tint)) (.lst (fs.map tint)) = true := by
  rw [Sm_lst, all2_map]
  simp only [List.length_map, hl, decide_true, Bool.true_and, List.all_eq_true]
  exact fun f m => Sm_tint h n f (hf f m)
/-! ### drawn links -/
structure InvL (p a b m g : Int) (rs : List (Int × Int × Int)) : Prop where
  ok : ∀ r ∈ rs, (isLk p r = true ∧ r.2.2 ≤ g) ∧ (r.1 < a ∨ (r.1 = a ∧ r.2.1 < b))
  len : (rs.length : Int) ≤ m
  srt : rs.Pairwise fun x y => prLt x y = true
theorem InvL.mono {p a b a' b' m g : Int} {rs : List (Int × Int × Int)} (i : InvL p a b m g rs) (l : ∀ x y : Int, (x < a ∨ (x = a ∧ y < b)) → (x < a' ∨ (x = a' ∧ y < b'))) : InvL p a' b' m g rs :=
  ⟨fun r hr => ⟨(i.ok r hr).1, l _ _ (i.ok r hr).2⟩, i.len, i.srt⟩
theorem InvL.app {p a b w m g : Int} {rs : List (Int × Int × Int)} (i : InvL p a b m g rs) (w1 : 1 ≤ w) (w2 : w ≤ g) (hg : g ≤ 6) (h0 : 0 ≤ a) (h1 : a < b) (h2 : b < p) (l : (rs.length : Int) < m) : InvL p a (b + 1) m g (rs ++ [(a, b, w)]) := by
  refine ⟨fun r hr => ?_, by simp; omega, List.pairwise_append.mpr ⟨i.srt, by simp, fun x hx y hy => ?_⟩⟩
  · rcases List.mem_append.mp hr with hr | hr
    · obtain ⟨o, c⟩ := i.ok r hr
      exact ⟨o, by omega⟩
    · simp at hr
      subst hr
      refine ⟨⟨?_, w2⟩, .inr ⟨rfl, by simp; omega⟩⟩
      simp [isLk]
      omega
  · simp at hy
    subst hy
    have := (i.ok x hx).2
    simp [prLt]
    omega
theorem at_pw {α : Type} [Inhabited α] {P : α → α → Prop} {xs : List α} (h : xs.Pairwise P) {i j : Int} (h0 : 0 ≤ i) (h1 : i < j) (h2 : j < xs.length) : P (at' xs i) (at' xs j) := by
  have a : i.toNat < xs.length := by omega
  have b : j.toNat < xs.length := by omega
  have := List.pairwise_iff_getElem.mp h i.toNat j.toNat a b (by omega)
  simpa [at', List.getD, a, b] using this
theorem InvL.lks {p a b m g : Int} {rs : List (Int × Int × Int)} (i : InvL p a b m g rs) : areLks p rs m = true := by
  simp only [areLks, Bool.and_eq_true, decide_eq_true_eq, List.all_eq_true]
  refine ⟨⟨i.len, fun r hr => (i.ok r hr).1.1⟩, fun j hj => ?_⟩
  obtain ⟨a, b⟩ := mem_rgI.mp hj
  exact at_pw i.srt a (by omega) (by omega)
theorem me_app {h : AH} {n : Nat} {xs : List D} {d : D} (e : h.os[n]? = some (.lst xs)) (hl : xs.length < LN) : meEv .append h (.ref n) [d] = .ok (.non, false) (h.put n (.lst (xs ++ [d])) d.top) := by
  simp only [meEv, e]
  rw [if_pos hl]
theorem mt_app {h : AH} {n : Nat} {xs : List D} (e : h.os[n]? = some (.lst xs)) : meTy .append h (.ref n) = true := by simp [meTy, litems, e]
theorem len_ref {h : AH} {n : Nat} {xs : List D} (e : h.os[n]? = some (.lst xs)) : biEv .len h [.ref n] = some (.int xs.length, false) := by simp [biEv, items, e]
theorem tup_ref {h : AH} {n : Nat} {xs : List D} (e : h.os[n]? = some (.lst xs)) : biEv .tuple h [.ref n] = some (.tup xs, false) := by simp [biEv, e, litems, stems]
theorem top_rds (rs : List (Int × Int × Int)) : (rds rs).top = 0 := by
  show topL (rs.map rd) = 0
  induction rs with
  | nil => rfl
  | cons r rs ih =>
    show max (rd r).top (topL (rs.map rd)) = 0
    rw [ih]
    rfl
/-! ### a block ends with True -/
def Good (o : O) : Prop := ∃ h, o = .rt (.bl true) false h
@[simp] theorem good_rt (h : AH) : Good (.rt (.bl true) false h) := ⟨h, rfl⟩
theorem Good.fin {o : O} (g : Good o) : ∃ h, exitF 0 o = .ok (.bl true, false) h := by
  obtain ⟨h, rfl⟩ := g
  rw [x_rt]
  by_cases z : h.fl ≤ 0
  · exact ⟨_, leave_take z rfl⟩
  · exact ⟨h, by unfold leave; rw [if_neg z]⟩
theorem Good.says {P : Pg} {k f : Nat} {ds : List D} {fn : Fn} (e : P.fs[f]? = some fn) (l : ds.length = fn.np) (g : Good (ssEv (evN ⟨P.g, P.anc, P.fld, callN P k⟩ DN) fn.body (ds.map some ++ List.replicate (fn.ns - fn.np) none) ⟨[], 0⟩)) : ∃ h, callN P (k + 1) f ds ⟨[], 0⟩ = .ok (.bl true, false) h := by
  obtain ⟨h, z⟩ := g.fin
  exact ⟨h, by rw [call_at e l]; exact z⟩
theorem good_nx {o : O} {f : Env → AH → O} {P : Env → AH → Prop} (e : Nx o P) (g : ∀ env h, P env h → Good (f env h)) : Good (o.then f) := by
  obtain ⟨env, h, rfl, p⟩ := e.out
  exact g env h p
theorem nx_then {o : O} {f : Env → AH → O} {P Q : Env → AH → Prop} (e : Nx o P) (g : ∀ env h, P env h → Nx (f env h) Q) : Nx (o.then f) Q := by
  obtain ⟨env, h, rfl, p⟩ := e.out
  exact g env h p
/-- a loop over a range -/
theorem for_rg {asg : D → Env → AH → R Env} {body : Env → AH → O} (I : Env → AH → Prop) {a b : Int} {env : Env} {h : AH}
    (st : ∀ i : Int, a ≤ i → i < b → ∀ env h, I env h → ∃ e1, asg (.int i) env h = .ok e1 h ∧ Nx (body e1 h) I) (i : I env h) : Nx (forEv asg body (rgL a b) env h) I := by
  refine for_nx I (fun x hx env h i => ?_) i
  obtain ⟨i', h0, h1, rfl⟩ := rgL_mem hx
  exact st i' h0 h1 env h i
inductive F2 {α β : Type} (Q : α → β → Prop) : List α → List β → Prop
  | nil : F2 Q [] []
  | cons {x : α} {y : β} {xs : List α} {ys : List β} : Q x y → F2 Q xs ys → F2 Q (x :: xs) (y :: ys)
/-- turns of a comprehension that draw -/
theorem lc_st {β : Type} {body : D → AH → R (Option β)} {os : List Ob} {fl : Nat} (Q : D → Option β → Prop) : ∀ (xs : List D) (s : St), (∀ x ∈ xs, ∀ s, ∃ y s', body x (hU s os fl) = .ok y (hU s' os fl) ∧ Q x y) →
    ∃ (ys : List (Option β)) (s' : St), F2 Q xs ys ∧ lcEv body xs (hU s os fl) = .ok (ys.filterMap id) (hU s' os fl)
  | [], s, _ => ⟨[], s, .nil, rfl⟩
  | x :: xs, s, st => by
    obtain ⟨y, s1, e1, q1⟩ := st x (List.mem_cons_self ..) s
    obtain ⟨ys, s2, q2, e2⟩ := lc_st Q xs s1 (fun z hz => st z (List.mem_cons_of_mem _ hz))
    refine ⟨y :: ys, s2, .cons q1 q2, ?_⟩
    unfold lcEv
    rw [e1, b_ok, e2, b_ok]
    cases y <;> rfl
theorem reg_fncs (s : St) (os : List Ob) (fs : List (List Int)) : regEv (hU s os 0) (.lst (fs.map tint), true) = .ok (.ref (os.length + 1), false) (hU s (os ++ [.lst (fs.map tint)]) 0) := by
  simp [regEv, AH.new, topL_tints]
theorem fcs_l {p : Int} (h2 : 2 ≤ p) : ((fcs p).length : Int) = 2 ^ (p - 1).toNat - 1 := by
  have l := fcsN_len (p - 1).toNat 1
  have e : (((fcsN (p - 1).toNat 1).length + 1 : Nat) : Int) = ((2 ^ (p - 1).toNat : Nat) : Int) := by rw [l]
  rw [Int.natCast_pow, Int.natCast_add] at e
  have e2 : ((fcs p).length : Int) + 1 = 2 ^ (p - 1).toNat := e
  generalize ((2 : Int) ^ (p - 1).toNat) = z at *
  omega
theorem fcs_1000 {p : Int} (h7 : p ≤ 7) : (fcs p).length ≤ 1000 := by
  have l := fcsN_len (p - 1).toNat 1
  have : 2 ^ (p - 1).toNat ≤ 2 ^ 6 := Nat.pow_le_pow_right (by decide) (by omega)
  have : (fcs p).length < 2 ^ 6 := by unfold fcs; omega
  omega
theorem fcs_pw {p : Int} {f : List Int} (hf : f ∈ fcs p) : f ≠ [] ∧ f.Pairwise (· < ·) ∧ ∀ x ∈ f, 1 ≤ x ∧ x < p := by
  obtain ⟨a, b, c⟩ := (fcsN_mem _ _ _).mp hf
  exact ⟨a, b, fun x hx => by have := c x hx; omega⟩
theorem pw_len : ∀ {f : List Int} {a b : Int}, f.Pairwise (· < ·) → (∀ x ∈ f, a ≤ x ∧ x < b) → (f.length : Int) ≤ max 0 (b - a)
  | [], a, b, _, _ => by simp; omega
  | x :: f, a, b, h, z => by
    obtain ⟨h1, h2⟩ := List.pairwise_cons.mp h
    have hx := z x (List.mem_cons_self ..)
    have := pw_len (a := x + 1) (b := b) h2 (fun y hy => by have := h1 y hy; have := z y (List.mem_cons_of_mem _ hy); omega)
    simp only [List.length_cons]
    omega
theorem fcs_fn {p : Int} {f : List Int} (hf : f ∈ fcs p) : isFn p f = true := by
  obtain ⟨a, b, c⟩ := fcs_pw hf
  have l := pw_len b c
  have l0 : 0 < f.length := by cases f with | nil => exact (a rfl).elim | cons x f => simp
  have h0 := c _ (at_mem (xs := f) (i := 0) (by omega) (by omega))
  simp only [isFn, isSd, Bool.and_eq_true, decide_eq_true_eq, List.all_eq_true, Bool.not_eq_true', beq_eq_false_iff_ne, ne_eq]
  refine ⟨⟨⟨⟨by omega, by omega⟩, fun x hx => ?_⟩, fun i hi => ?_⟩, by omega⟩
  · have := c x hx
    omega
  · obtain ⟨i0, i1⟩ := mem_rgI.mp hi
    exact at_pw b i0 (by omega) (by omega)
theorem fcs_fl {p : Int} (h7 : p ≤ 7) {f : List Int} (hf : f ∈ fcs p) : f.length ≤ 1000 := by
  obtain ⟨a, b, c⟩ := fcs_pw hf
  have l := pw_len b c
  omega
theorem for_nil' (asg : D → Env → AH → R Env) (body : Env → AH → O) (env : Env) (h : AH) : forEv asg body [] env h = .nx env h := rfl
theorem for_cons' (asg : D → Env → AH → R Env) (body : Env → AH → O) (x : D) (xs : List D) (env : Env) (h : AH) : forEv asg body (x :: xs) env h = (asg x env h).o env fun env h => (body env h).loop (forEv asg body xs) := rfl
theorem rg_at {α : Type} [Inhabited α] (xs : List α) : (rgI 0 xs.length).map (at' xs) = xs := by
  unfold rgI
  rw [List.map_map]
  apply List.ext_getElem
  · simp
  · intro i h1 h2
    simp [at', List.getD, h2]
theorem rg_fm {α β : Type} [Inhabited α] (xs : List α) (q : α → Bool) (f : α → β) : ((rgI 0 xs.length).filter fun i => q (at' xs i)).map (fun i => f (at' xs i)) = (xs.filter q).map f := by
  have := rg_at xs
  conv => rhs; rw [← this]
  rw [List.filter_map, List.map_map]
  rfl
theorem rg_map {α β : Type} [Inhabited α] (xs : List α) (f : α → β) : (rgI 0 xs.length).map (fun i => f (at' xs i)) = xs.map f := by
  have := rg_at xs
  conv => rhs; rw [← this]
  rw [List.map_map]
  rfl
theorem rgI_pw (a b : Int) : (rgI a b).Pairwise (· < ·) := by
  unfold rgI
  rw [List.pairwise_map]
  exact List.Pairwise.imp (by intro x y h; omega) (List.pairwise_lt_range (n := (b - a).toNat))
/-- an ascending list is what a range leaves of it -/
theorem pw_ext : ∀ {xs ys : List Int}, xs.Pairwise (· < ·) → ys.Pairwise (· < ·) → (∀ x, x ∈ xs ↔ x ∈ ys) → xs = ys
  | [], [], _, _, _ => rfl
  | [], y :: ys, _, _, h => by have := (h y).mpr (List.mem_cons_self ..); cases this
  | x :: xs, [], _, _, h => by have := (h x).mp (List.mem_cons_self ..); cases this
  | x :: xs, y :: ys, h1, h2, h => by
    obtain ⟨a1, a2⟩ := List.pairwise_cons.mp h1
    obtain ⟨b1, b2⟩ := List.pairwise_cons.mp h2
    have e : x = y := by
      rcases List.mem_cons.mp ((h x).mp (List.mem_cons_self ..)) with e | m
      · exact e
      · rcases List.mem_cons.mp ((h y).mpr (List.mem_cons_self ..)) with e | m'
        · exact e.symm
        · have := a1 y m'; have := b1 x m; omega
    subst e
    congr 1
    refine pw_ext a2 b2 fun z => ⟨fun m => ?_, fun m => ?_⟩
    · rcases List.mem_cons.mp ((h z).mp (List.mem_cons_of_mem _ m)) with e | m'
      · have := a1 z m; omega
      · exact m'
    · rcases List.mem_cons.mp ((h z).mpr (List.mem_cons_of_mem _ m)) with e | m'
      · have := b1 z m; omega
      · exact m'
end Rw
end

section
set_option Elab.async false
set_option linter.all false
set_option maxRecDepth 100000
set_option maxHeartbeats 4000000
/-! RfB: plain laws about nets. -/
namespace Rw
theorem at_rgI {a b i : Int} (h0 : 0 ≤ i) (h1 : i < b - a) : at' (rgI a b) i = a + i := by
  have : i.toNat < (b - a).toNat := by omega
  simp [at', rgI, List.getD, this]
  omega
theorem areLks_all {p : Int} {rs : List (Int × Int × Int)} {m : Int} (g : areLks p rs m = true) : ∀ r ∈ rs, isLk p r = true := by
  simp only [areLks, Bool.and_eq_true, List.all_eq_true] at g
  exact g.1.2
theorem isLk_lt {p : Int} {r : Int × Int × Int} (g : isLk p r = true) : 0 ≤ r.1 ∧ r.1 < r.2.1 ∧ r.2.1 < p ∧ 1 ≤ r.2.2 ∧ r.2.2 ≤ 6 := by
  simp only [isLk, Bool.and_eq_true, decide_eq_true_eq] at g
  omega
theorem wid_cons (r : Int × Int × Int) (rs : List (Int × Int × Int)) (f : List Int) : wid (r :: rs) f = (if crs f r then r.2.2 else 0) + wid rs f := by
  unfold wid
  cases h : crs f r <;> simp [h]
theorem satN_cons (r : Int × Int × Int) (rs : List (Int × Int × Int)) (x : Int) : satN (r :: rs) x = (if x = r.1 ∨ x = r.2.1 then r.2.2 else 0) + satN rs x := by
  unfold satN
  by_cases h : x = r.1 <;> by_cases h2 : x = r.2.1 <;> simp [h, h2]
/-- the widths of the roads within -/
def innN (rs : List (Int × Int × Int)) (f : List Int) : Int := ((rs.filter fun r => decide (r.1 ∈ f) && decide (r.2.1 ∈ f)).map fun r => r.2.2).sum
theorem innN_cons (r : Int × Int × Int) (rs : List (Int × Int × Int)) (f : List Int) : innN (r :: rs) f = (if r.1 ∈ f ∧ r.2.1 ∈ f then r.2.2 else 0) + innN rs f := by
  unfold innN
  by_cases h : r.1 ∈ f <;> by_cases h2 : r.2.1 ∈ f <;> simp [h, h2]
theorem sum_add (g g' : Int → Int) : ∀ f : List Int, (f.map fun x => g x + g' x).sum = (f.map g).sum + (f.map g').sum
  | [] => rfl
  | x :: f => by
    simp only [List.map_cons, List.sum_cons, sum_add g g' f]
    omega
theorem sum_ind (a b w : Int) (hab : a ≠ b) : ∀ f : List Int, f.Pairwise (· < ·) → (f.map fun x => if x = a ∨ x = b then w else 0).sum = (if a ∈ f then w else 0) + (if b ∈ f then w else 0)
  | [], _ => by simp
  | x :: f, h => by
    obtain ⟨h1, h2⟩ := List.pairwise_cons.mp h
    rw [List.map_cons, List.sum_cons, sum_ind a b w hab f h2]
    have nx : x ∉ f := fun m => by have := h1 x m; omega
    by_cases xa : x = a
    · subst xa
      have : ¬ b = x := fun e => hab e.symm
      by_cases hb : b ∈ f <;> simp [nx, hb, this]
    · by_cases xb : x = b
      · subst xb
        have : ¬ a = x := fun e => xa e.symm
        by_cases ha : a ∈ f <;> simp [nx, ha, this]
      · have e1 : ¬ a = x := fun e => xa e.symm
        have e2 : ¬ b = x := fun e => xb e.symm
        by_cases ha : a ∈ f <;> by_cases hb : b ∈ f <;> simp [ha, hb, e1, e2, xa, xb]
/-- the width by the widths at the points -/
theorem wid_sat {f : List Int} (hf : f.Pairwise (· < ·)) : ∀ rs : List (Int × Int × Int), (∀ r ∈ rs, r.1 ≠ r.2.1) → (f.map (satN rs)).sum - 2 * innN rs f = wid rs f
  | [], _ => by
    have : (f.map (satN [])).sum = 0 := by
      clear hf
      induction f with
      | nil => rfl
      | cons x f ih => rw [List.map_cons, List.sum_cons, ih]; rfl
    rw [this]
    rfl
  | r :: rs, h => by
    have ih := wid_sat hf rs fun q m => h q (List.mem_cons_of_mem _ m)
    have e : (f.map (satN (r :: rs))) = f.map fun x => (if x = r.1 ∨ x = r.2.1 then r.2.2 else 0) + satN rs x := by
      apply List.map_congr_left
      intro x _
      exact satN_cons r rs x
    have ne := h r (List.mem_cons_self ..)
    rw [e, sum_add, sum_ind r.1 r.2.1 r.2.2 ne f hf, innN_cons, wid_cons, ← ih]
    by_cases h1 : r.1 ∈ f <;> by_cases h2 : r.2.1 ∈ f <;> simp [crs, h1, h2] <;> omega
/-- a link greater by 1 -/
def upR (r : Int × Int × Int) : Int × Int × Int := (r.1, r.2.1, r.2.2 + 1)
def moreN (rs : List (Int × Int × Int)) (i : Int) : List (Int × Int × Int) := rs.set i.toNat (upR (at' rs i))
theorem at_nat {α : Type} [Inhabited α] {xs : List α} {i : Int} (h0 : 0 ≤ i) (h1 : i < xs.length) : xs[i.toNat]? = some (at' xs i) := by
  have : i.toNat < xs.length := by omega
  simp [at', List.getD, this]
theorem moreN_eq {rs : List (Int × Int × Int)} {i : Int} (h0 : 0 ≤ i) (h1 : i < rs.length) : moreN rs i = rs.take i.toNat ++ upR (at' rs i) :: rs.drop (i.toNat + 1) := by
  have : i.toNat < rs.length := by omega
  rw [moreN, List.set_eq_take_append_cons_drop, if_pos this]
theorem split_at {rs : List (Int × Int × Int)} {i : Int} (h0 : 0 ≤ i) (h1 : i < rs.length) : rs = rs.take i.toNat ++ at' rs i :: rs.drop (i.toNat + 1) := by
  have : i.toNat < rs.length := by omega
  have e : at' rs i = rs[i.toNat] := by simp [at', List.getD, this]
  rw [e, List.getElem_cons_drop, List.take_append_drop]
theorem wid_app (rs qs : List (Int × Int × Int)) (f : List Int) : wid (rs ++ qs) f = wid rs f + wid qs f := by simp [wid]
theorem wid_more {rs : List (Int × Int × Int)} {i : Int} (h0 : 0 ≤ i) (h1 : i < rs.length) (f : List Int) : wid (moreN rs i) f = wid rs f + if crs f (at' rs i) then 1 else 0 := by
  rw [moreN_eq h0 h1]
  conv => rhs; rw [split_at h0 h1]
  rw [wid_app, wid_app, wid_cons, wid_cons]
  have : crs f (upR (at' rs i)) = crs f (at' rs i) := rfl
  rw [this, ← split_at h0 h1]
  by_cases z : crs f (at' rs i) = true <;> simp [z, upR] <;> omega
theorem at_set {α : Type} [Inhabited α] (xs : List α) (i j : Int) (x : α) (h0 : 0 ≤ i) (h1 : i < xs.length) (h2 : 0 ≤ j) : at' (xs.set i.toNat x) j = if j = i then x else at' xs j := by
  have : i.toNat < xs.length := by omega
  unfold at'
  by_cases e : j = i
  · subst e; simp [List.getD, this]
  · have : i.toNat ≠ j.toNat := by omega
    simp [List.getD, e, this]
theorem more_lks {p m : Int} {rs : List (Int × Int × Int)} {i : Int} (h0 : 0 ≤ i) (h1 : i < rs.length) (g : areLks p rs m = true) (h : ∀ r ∈ rs, r.2.2 ≤ 5) : areLks p (moreN rs i) m = true := by
  have hi := at_mem h0 h1
  have h5 := h _ hi
  simp only [areLks, Bool.and_eq_true, decide_eq_true_eq, List.all_eq_true] at g ⊢
  obtain ⟨⟨g1, g2⟩, g3⟩ := g
  have gi := g2 _ hi
  refine ⟨⟨by rw [moreN, List.length_set]; exact g1, fun r hr => ?_⟩, fun j hj => ?_⟩
  · rcases List.mem_or_eq_of_mem_set hr with hr | rfl
    · exact g2 r hr
    · have z := isLk_lt gi
      obtain ⟨z1, z2, z3, z4, z5⟩ := z
      have e1 : (upR (at' rs i)).1 = (at' rs i).1 := rfl
      have e2 : (upR (at' rs i)).2.1 = (at' rs i).2.1 := rfl
      have e3 : (upR (at' rs i)).2.2 = (at' rs i).2.2 + 1 := rfl
      simp only [isLk, e1, e2, e3, Bool.and_eq_true, decide_eq_true_eq]
      refine ⟨⟨⟨⟨⟨⟨?_, ?_⟩, ?_⟩, ?_⟩, ?_⟩, ?_⟩, ?_⟩ <;> omega
  · rw [moreN, List.length_set] at hj
    obtain ⟨j0, j1⟩ := mem_rgI.mp hj
    have z := g3 j hj
    unfold moreN
    rw [at_set _ _ _ _ h0 h1 j0, at_set _ _ _ _ h0 h1 (by omega)]
    have u : ∀ r q : Int × Int × Int, prLt (upR r) q = prLt r q ∧ prLt r (upR q) = prLt r q := fun r q => ⟨rfl, rfl⟩
    by_cases e1 : j = i
    · subst e1
      have : ¬ j + 1 = j := by omega
      simp [this, (u _ _).1, z]
    · by_cases e2 : j + 1 = i
      · subst e2
        simp [e1, (u _ _).2, z]
      · simp [e1, e2, z]
theorem wid_one (r : Int × Int × Int) (f : List Int) : wid [r] f = if crs f r then r.2.2 else 0 := by
  rw [wid_cons]
  show _ + 0 = _
  omega
/-- plain lists of ints are equal to themselves -/
theorem deqL_ints : ∀ f : List Int, deqL (f.map .int) (f.map .int) = true
  | [] => rfl
  | x :: f => by simp [deqL, deq, deqL_ints f]
theorem cmp_ne_ints (h : AH) (f : List Int) : cmpEv .ne h (.lst (f.map .int)) (.lst (f.map .int)) = some false := by
  have p : (D.lst (f.map .int)).plain = true := by
    show (f.map D.int).all (plK 11) = true
    simp [List.all_eq_true, plK]
  show (if (res h (.lst (f.map .int))).plain && (res h (.lst (f.map .int))).plain then some (!deq _ _) else none) = _
  have r : res h (.lst (f.map .int)) = .lst (f.map .int) := rfl
  rw [r, p]
  show some (!deqL _ _) = _
  rw [deqL_ints]
  rfl
theorem cut_lo {α : Type} (xs : List α) {i : Int} (h0 : 0 ≤ i) (h1 : i ≤ xs.length) : cut xs none (some i) = xs.take i.toNat := by
  have : ¬ i < 0 := by omega
  simp only [cut, cutIx, if_neg this]
  rw [Nat.min_eq_left (by omega)]
  rfl
theorem cut_hi {α : Type} (xs : List α) {i : Int} (h0 : 0 ≤ i) (h1 : i ≤ xs.length) : cut xs (some i) none = xs.drop i.toNat := by
  have : ¬ i < 0 := by omega
  simp only [cut, cutIx, if_neg this]
  rw [Nat.min_eq_left (by omega), List.take_of_length_le (by simp)]
theorem cut_1 {α : Type} [Inhabited α] (xs : List α) {i : Int} (h0 : 0 ≤ i) (h1 : i < xs.length) : cut xs (some i) (some (i + 1)) = [at' xs i] := by
  have a : ¬ i < 0 := by omega
  have b : ¬ i + 1 < 0 := by omega
  have z : i.toNat < xs.length := by omega
  have e1 : min i.toNat xs.length = i.toNat := Nat.min_eq_left (by omega)
  have e2 : min (i + 1).toNat xs.length = i.toNat + 1 := by rw [Nat.min_eq_left (by omega)]; omega
  have e3 : i.toNat + 1 - i.toNat = 1 := by omega
  simp only [cut, cutIx, if_neg a, if_neg b, e1, e2, e3]
  rw [List.drop_eq_getElem_cons z]
  simp only [List.take_succ_cons, List.take_zero, at', List.getD, List.getElem?_eq_getElem z, Option.getD_some]
theorem F2_sub : ∀ {xs : List Int} {ys : List (Option D)}, F2 (fun x y => y = none ∨ y = some x) (xs.map D.int) ys → ∃ f : List Int, f.Sublist xs ∧ ys.filterMap id = f.map .int
  | [], [], _ => ⟨[], .slnil, rfl⟩
  | x :: xs, y :: ys, h => by
    cases h with
    | cons q h =>
      obtain ⟨f, a, b⟩ := F2_sub h
      rcases q with rfl | rfl
      · exact ⟨f, a.cons _, by simpa using b⟩
      · exact ⟨x :: f, a.cons_cons _, by simpa using b⟩
/-- an ascending list of points, neither none nor all, is a side -/
theorem pw_sd {p : Int} {f : List Int} (h : f.Pairwise (· < ·)) (r : ∀ x ∈ f, 0 ≤ x ∧ x < p) (l0 : 0 < f.length) (l1 : (f.length : Int) < p) : isSd p f = true := by
  simp only [isSd, Bool.and_eq_true, decide_eq_true_eq, List.all_eq_true]
  refine ⟨⟨⟨by omega, l1⟩, fun x hx => by have := r x hx; omega⟩, fun i hi => ?_⟩
  obtain ⟨i0, i1⟩ := mem_rgI.mp hi
  exact at_pw h i0 (by omega) (by omega)
/-- the fence that divides the points alike -/
theorem fence_due {p : Int} {f : List Int} (h : f.Pairwise (· < ·)) (r : ∀ x ∈ f, 0 ≤ x ∧ x < p) (l0 : 0 < f.length) : (rgI 0 p).filter (fun x => decide (x ∈ f) != decide (0 ∈ f)) = if at' f 0 = 0 then (rgI 0 p).filter fun x => !decide (x ∈ f) else f := by
  cases f with
  | nil => simp at l0
  | cons y f =>
    have e : at' (y :: f) 0 = y := rfl
    obtain ⟨h1, h2⟩ := List.pairwise_cons.mp h
    have y0 := r y (List.mem_cons_self ..)
    rw [e]
    by_cases z : y = 0
    · subst z
      rw [if_pos rfl]
      apply List.filter_congr
      intro x _
      simp [bne]
    · rw [if_neg z]
      have n0 : ¬ (0 : Int) ∈ y :: f := fun m => by
        rcases List.mem_cons.mp m with e | m
        · exact z e.symm
        · have := h1 0 m; omega
      refine pw_ext ((rgI_pw 0 p).filter _) h fun x => ?_
      rw [List.mem_filter, mem_rgI]
      simp only [n0, decide_false, bne_iff_ne, ne_eq, decide_eq_false_iff_not, Decidable.not_not]
      exact ⟨fun a => a.2, fun m => ⟨r x m, m⟩⟩
theorem in_lints (h : AH) (x : Int) (f : List Int) : inEv h (.int x) (.lst (f.map .int)) = some (decide (x ∈ f)) := by
  show (if (D.int x).plain && plainL (f.map .int) then some ((f.map D.int).any fun z => deq z (.int x)) else none) = _
  rw [plain_ints, any_ints]
  rfl
theorem in_lpr (h : AH) (x a b : Int) : inEv h (.int x) (.lst [.int a, .int b]) = some (decide (x = a) || decide (x = b)) := by
  have := in_lints h x [a, b]
  simp only [List.map_cons, List.map_nil] at this
  rw [this]
  simp
/-! ### the least of some numbers -/
def minF (x : Int) (xs : List Int) : Int := xs.foldl (fun a y => if y < a then y else a) x
def minI : List Int → Int
  | [] => 0
  | x :: xs => minF x xs
theorem minF_le : ∀ (xs : List Int) (x : Int), minF x xs ≤ x ∧ ∀ y ∈ xs, minF x xs ≤ y
  | [], x => ⟨Int.le_refl _, by simp⟩
  | y :: xs, x => by
    show minF (if y < x then y else x) xs ≤ x ∧ _
    obtain ⟨a, b⟩ := minF_le xs (if y < x then y else x)
    have t : (if y < x then y else x) ≤ x ∧ (if y < x then y else x) ≤ y := by split <;> omega
    refine ⟨Int.le_trans a t.1, fun z hz => ?_⟩
    rcases List.mem_cons.mp hz with rfl | hz
    · exact Int.le_trans a t.2
    · exact b z hz
theorem minF_mem : ∀ (xs : List Int) (x : Int), minF x xs = x ∨ minF x xs ∈ xs
  | [], x => .inl rfl
  | y :: xs, x => by
    show minF (if y < x then y else x) xs = x ∨ minF (if y < x then y else x) xs ∈ y :: xs
    rcases minF_mem xs (if y < x then y else x) with e | e
    · rw [e]
      split
      · exact .inr (List.mem_cons_self ..)
      · exact .inl rfl
    · exact .inr (List.mem_cons_of_mem _ e)
theorem minI_le {xs : List Int} {y : Int} (h : y ∈ xs) : minI xs ≤ y := by
  cases xs with
  | nil => cases h
  | cons x xs =>
    rcases List.mem_cons.mp h with rfl | h
    · exact (minF_le xs y).1
    · exact (minF_le xs x).2 y h
theorem minI_mem {xs : List Int} (h : xs ≠ []) : minI xs ∈ xs := by
  cases xs with
  | nil => exact (h rfl).elim
  | cons x xs =>
    rcases minF_mem xs x with e | e
    · show minF x xs ∈ _; rw [e]; exact List.mem_cons_self ..
    · exact List.mem_cons_of_mem _ e
theorem minI_eq {xs : List Int} {m : Int} (h : m ∈ xs) (l : ∀ y ∈ xs, m ≤ y) : minI xs = m := by
  have a := minI_le h
  have b := l _ (minI_mem (List.ne_nil_of_mem h))
  omega
theorem dmin_ints : ∀ (xs : List Int) (x : Int), dmin (.int x) (xs.map .int) = .int (minF x xs)
  | [], _ => rfl
  | y :: xs, x => by
    have := dmin_ints xs (if y < x then y else x)
    unfold dmin minF at *
    rw [List.map_cons, List.foldl_cons, List.foldl_cons, ← this]
    congr 1
    simp only [dlt, decide_eq_true_eq]
    split <;> rfl
theorem sortable_ints (xs : List Int) : sortable (xs.map .int) = true := by
  simp [sortable, tys, Ty.has]
theorem bi_minI (h : AH) {xs : List Int} (e : xs ≠ []) : biEv .minL h [.lst (xs.map .int)] = some (.int (minI xs), false) := by
  cases xs with
  | nil => exact (e rfl).elim
  | cons x xs =>
    have s := sortable_ints (x :: xs)
    rw [List.map_cons] at s
    simp only [biEv, stems, litems, List.map_cons, Option.bind_some, s, if_true, dmin_ints]
    rfl
/-! ### pairs of points -/
abbrev prD (q : Int × Int) : D := .tup [.int q.1, .int q.2]
def crP (f : List Int) (q : Int × Int) : Bool := decide (q.1 ∈ f) != decide (q.2 ∈ f)
/-- the fences that part all of some pairs -/
def cutN (p : Int) (qs : List (Int × Int)) : List (List Int) := (fcs p).filter fun f => qs.all (crP f)
/-- their least width -/
def lstN (p : Int) (rs : List (Int × Int × Int)) (qs : List (Int × Int)) : Int := minI ((cutN p qs).map (wid rs))
/-- those with this width -/
def lfsN (p : Int) (rs : List (Int × Int × Int)) (qs : List (Int × Int)) : List (List Int) := (cutN p qs).filter fun f => decide (wid rs f = lstN p rs qs)
theorem lfs_ne (p : Int) (rs : List (Int × Int × Int)) (qs : List (Int × Int)) (ne : cutN p qs ≠ []) : ∃ f ∈ cutN p qs, wid rs f = lstN p rs qs := by
  have := minI_mem (xs := (cutN p qs).map (wid rs)) (by simpa using ne)
  obtain ⟨f, m, e⟩ := List.mem_map.mp this
  exact ⟨f, m, e⟩
theorem lfs_pos (p : Int) (rs : List (Int × Int × Int)) (qs : List (Int × Int)) (ne : cutN p qs ≠ []) : 0 < ((lfsN p rs qs).length : Int) := by
  obtain ⟨f, m, e⟩ := lfs_ne p rs qs ne
  have : f ∈ lfsN p rs qs := List.mem_filter.mpr ⟨m, by simpa using e⟩
  have := List.length_pos_of_mem this
  omega
theorem lfs_wid (p : Int) (rs : List (Int × Int × Int)) (qs : List (Int × Int)) (ne : cutN p qs ≠ []) : wid rs (at' (lfsN p rs qs) 0) = lstN p rs qs := by
  have m := at_mem (xs := lfsN p rs qs) (i := 0) (by omega) (lfs_pos p rs qs ne)
  have := (List.mem_filter.mp m).2
  simpa using this
/-- all pairs of so many points, in order -/
def prs (p : Int) : List (Int × Int) := (rgI 0 p).flatMap fun a => (rgI (a + 1) p).map fun b => (a, b)
theorem mem_prs {p : Int} {q : Int × Int} : q ∈ prs p ↔ 0 ≤ q.1 ∧ q.1 < q.2 ∧ q.2 < p := by
  unfold prs
  simp only [List.mem_flatMap, List.mem_map, mem_rgI]
  constructor
  · rintro ⟨a, ha, b, hb, rfl⟩
    simp only
    omega
  · intro h
    exact ⟨q.1, by omega, q.2, by omega, rfl⟩
def qLt (x y : Int × Int) : Prop := x.1 < y.1 ∨ (x.1 = y.1 ∧ x.2 < y.2)
theorem fm_pw {α β : Type} {P : β → β → Prop} {f : α → List β} {R : α → α → Prop} : ∀ {xs : List α}, xs.Pairwise R → (∀ x ∈ xs, (f x).Pairwise P) → (∀ x y, R x y → ∀ a ∈ f x, ∀ b ∈ f y, P a b) → (xs.flatMap f).Pairwise P
  | [], _, _, _ => by simp
  | x :: xs, h, h1, h2 => by
    obtain ⟨a, b⟩ := List.pairwise_cons.mp h
    rw [List.flatMap_cons, List.pairwise_append]
    refine ⟨h1 x (List.mem_cons_self ..), fm_pw b (fun y hy => h1 y (List.mem_cons_of_mem _ hy)) h2, fun u hu v hv => ?_⟩
    obtain ⟨y, hy, hv⟩ := List.mem_flatMap.mp hv
    exact h2 x y (a y hy) u hu v hv
theorem prs_pw (p : Int) : (prs p).Pairwise qLt := by
  refine fm_pw (R := (· < ·)) (rgI_pw 0 p) (fun a _ => ?_) (fun a b hab x hx y hy => ?_)
  · rw [List.pairwise_map]
    exact (rgI_pw (a + 1) p).imp fun h => .inr ⟨rfl, h⟩
  · obtain ⟨u, -, rfl⟩ := List.mem_map.mp hx
    obtain ⟨v, -, rfl⟩ := List.mem_map.mp hy
    exact .inl hab
/-- drawn roads: their pairs stand in order among some pairs -/
structure InvQ (p g : Int) (qs : List (Int × Int)) (rs : List (Int × Int × Int)) : Prop where
  ok : ∀ r ∈ rs, 1 ≤ r.2.2 ∧ r.2.2 ≤ g
  sub : (rs.map fun r => (r.1, r.2.1)).Sublist qs
theorem InvQ.skip {p g : Int} {qs : List (Int × Int)} {rs : List (Int × Int × Int)} (i : InvQ p g qs rs) (q : Int × Int) : InvQ p g (qs ++ [q]) rs := ⟨i.ok, i.sub.trans (List.sublist_append_left _ _)⟩
theorem InvQ.app {p g : Int} {qs : List (Int × Int)} {rs : List (Int × Int × Int)} (i : InvQ p g qs rs) (q : Int × Int) {w : Int} (w1 : 1 ≤ w) (w2 : w ≤ g) : InvQ p g (qs ++ [q]) (rs ++ [(q.1, q.2, w)]) := by
  refine ⟨fun r hr => ?_, ?_⟩
  · rcases List.mem_append.mp hr with hr | hr
    · exact i.ok r hr
    · simp at hr
      subst hr
      exact ⟨w1, w2⟩
  · rw [List.map_append]
    exact i.sub.append (List.Sublist.refl _)
theorem InvQ.lks {p g m : Int} {rs : List (Int × Int × Int)} (i : InvQ p g (prs p) rs) (hg : g ≤ 6) (hl : (rs.length : Int) ≤ m) : areLks p rs m = true := by
  have pw := List.Pairwise.sublist i.sub (prs_pw p)
  rw [List.pairwise_map] at pw
  simp only [areLks, Bool.and_eq_true, decide_eq_true_eq, List.all_eq_true]
  refine ⟨⟨hl, fun r hr => ?_⟩, fun j hj => ?_⟩
  · obtain ⟨w1, w2⟩ := i.ok r hr
    have := mem_prs.mp (i.sub.subset (List.mem_map.mpr ⟨r, hr, rfl⟩))
    simp only at this
    simp only [isLk, Bool.and_eq_true, decide_eq_true_eq]
    refine ⟨⟨⟨⟨⟨⟨?_, ?_⟩, ?_⟩, ?_⟩, ?_⟩, ?_⟩, ?_⟩ <;> omega
  · obtain ⟨a, b⟩ := mem_rgI.mp hj
    have := at_pw pw a (show j < j + 1 by omega) (by omega)
    simp only [qLt] at this
    simp only [prLt, Bool.or_eq_true, Bool.and_eq_true, decide_eq_true_eq, beq_iff_eq]
    exact this
theorem topL_prs (qs : List (Int × Int)) : topL (qs.map prD) = 0 := by
  induction qs with
  | nil => rfl
  | cons q qs ih =>
    show max (prD q).top (topL (qs.map prD)) = 0
    rw [ih]
    rfl
theorem prs_3 {p : Int} (h0 : 3 ≤ p) (h1 : p ≤ 7) : (3 : Int) ≤ (prs p).length := by
  have c : p = 3 ∨ p = 4 ∨ p = 5 ∨ p = 6 ∨ p = 7 := by omega
  rcases c with rfl | rfl | rfl | rfl | rfl <;> decide
theorem prs_21 {p : Int} (h0 : 2 ≤ p) (h1 : p ≤ 7) : ((prs p).length : Int) ≤ 21 := by
  have c : p = 2 ∨ p = 3 ∨ p = 4 ∨ p = 5 ∨ p = 6 ∨ p = 7 := by omega
  rcases c with rfl | rfl | rfl | rfl | rfl | rfl <;> decide
end Rw
end

section
set_option Elab.async false
set_option linter.all false
set_option maxRecDepth 100000
set_option maxHeartbeats 4000000
/-! RfB2: plain laws about the least widths of fences that part pairs; a road changed. -/
namespace Rw
theorem mem_fcs {p : Int} {f : List Int} (p1 : 1 ≤ p) : f ∈ fcs p ↔ f ≠ [] ∧ f.Pairwise (· < ·) ∧ ∀ x ∈ f, 1 ≤ x ∧ x < p := by
  unfold fcs
  rw [fcsN_mem]
  constructor
  · rintro ⟨a, b, c⟩
    exact ⟨a, b, fun x hx => by have := c x hx; omega⟩
  · rintro ⟨a, b, c⟩
    exact ⟨a, b, fun x hx => by have := c x hx; omega⟩
/-- the fence of those points from 1 on that a test tells -/
def fcOf (p : Int) (t : Int → Bool) : List Int := (rgI 1 p).filter t
theorem mem_fcOf {p : Int} {t : Int → Bool} {x : Int} : x ∈ fcOf p t ↔ (1 ≤ x ∧ x < p) ∧ t x = true := by
  unfold fcOf
  rw [List.mem_filter, mem_rgI]
theorem fcOf_fcs {p : Int} {t : Int → Bool} (p1 : 1 ≤ p) {x : Int} (h1 : 1 ≤ x) (h2 : x < p) (ht : t x = true) : fcOf p t ∈ fcs p := by
  rw [mem_fcs p1]
  refine ⟨?_, (rgI_pw 1 p).filter _, fun y hy => (mem_fcOf.mp hy).1⟩
  exact List.ne_nil_of_mem (mem_fcOf.mpr ⟨⟨h1, h2⟩, ht⟩)
/-- a test that is false at 0 : the fence crosses as the test does -/
theorem crP_fcOf {p : Int} {t : Int → Bool} (t0 : t 0 = false) {q : Int × Int} (g : 0 ≤ q.1 ∧ q.1 < q.2 ∧ q.2 < p) : crP (fcOf p t) q = (t q.1 != t q.2) := by
  have h : ∀ x : Int, 0 ≤ x → x < p → decide (x ∈ fcOf p t) = t x := by
    intro x x0 x1
    by_cases z : x = 0
    · subst z
      rw [t0, decide_eq_false_iff_not, mem_fcOf]
      omega
    · cases q : t x with
      | false => rw [decide_eq_false_iff_not, mem_fcOf, q]; simp
      | true => rw [decide_eq_true_eq, mem_fcOf, q]; exact ⟨⟨by omega, x1⟩, rfl⟩
  unfold crP
  rw [h _ (by omega) (by omega), h _ (by omega) (by omega)]
theorem mem_cutN {p : Int} {qs : List (Int × Int)} {f : List Int} : f ∈ cutN p qs ↔ f ∈ fcs p ∧ ∀ q ∈ qs, crP f q = true := by
  unfold cutN
  rw [List.mem_filter, List.all_eq_true]
theorem cut_ne1 {p : Int} {q : Int × Int} (g : 0 ≤ q.1 ∧ q.1 < q.2 ∧ q.2 < p) : cutN p [q] ≠ [] := by
  refine List.ne_nil_of_mem (a := fcOf p fun x => x == q.2) (mem_cutN.mpr ⟨fcOf_fcs (x := q.2) (by omega) (by omega) (by omega) (by simp), ?_⟩)
  intro z hz
  rw [List.mem_singleton] at hz
  subst hz
  rw [crP_fcOf (by simp; omega) g]
  have : ¬ z.1 = z.2 := by omega
  simp [this]
theorem cut_ne2 {p : Int} {q q' : Int × Int} (g : 0 ≤ q.1 ∧ q.1 < q.2 ∧ q.2 < p) (g' : 0 ≤ q'.1 ∧ q'.1 < q'.2 ∧ q'.2 < p) : cutN p [q, q'] ≠ [] := by
  have key : ∀ t : Int → Bool, t 0 = false → (t q.1 != t q.2) = true → (t q'.1 != t q'.2) = true → cutN p [q, q'] ≠ [] := by
    intro t t0 h1 h2
    refine List.ne_nil_of_mem (a := fcOf p t) (mem_cutN.mpr ⟨?_, ?_⟩)
    · by_cases z : t q.2 = true
      · exact fcOf_fcs (x := q.2) (by omega) (by omega) (by omega) z
      · have z1 : t q.1 = true := by
          cases a : t q.1 <;> cases b : t q.2 <;> simp [a, b] at h1 z ⊢
        have : q.1 ≠ 0 := fun e => by rw [e, t0] at z1; cases z1
        exact fcOf_fcs (x := q.1) (by omega) (by omega) (by omega) z1
    · intro z hz
      simp only [List.mem_cons, List.not_mem_nil, or_false] at hz
      rcases hz with rfl | rfl
      · rw [crP_fcOf t0 g]; exact h1
      · rw [crP_fcOf t0 g']; exact h2
  by_cases e1 : q.2 = q'.1
  · refine key (fun x => x == q.2) (by simp; omega) ?_ ?_
    · have : ¬ q.1 = q.2 := by omega
      simp [this]
    · have : ¬ q'.2 = q.2 := by omega
      simp [e1]; omega
  · by_cases e2 : q.1 = q'.2
    · refine key (fun x => x == q'.2) (by simp; omega) ?_ ?_
      · simp [e2]; omega
      · have : ¬ q'.1 = q'.2 := by omega
        simp [this]
    · refine key (fun x => x == q.2 || x == q'.2) (by simp; omega) ?_ ?_
      · have : ¬ q.1 = q.2 := by omega
        simp [this, e2]
      · have a : ¬ q'.1 = q'.2 := by omega
        have b : ¬ q'.1 = q.2 := fun e => e1 e.symm
        simp [a, b]
/-! ### least widths -/
theorem lst_le {p : Int} {rs : List (Int × Int × Int)} {qs : List (Int × Int)} {f : List Int} (h : f ∈ cutN p qs) : lstN p rs qs ≤ wid rs f := minI_le (List.mem_map_of_mem h)
theorem lst_sub {p : Int} {rs : List (Int × Int × Int)} {qs qs' : List (Int × Int)} (ne : cutN p qs ≠ []) (h : ∀ q ∈ qs', q ∈ qs) : lstN p rs qs' ≤ lstN p rs qs := by
  obtain ⟨f, m, e⟩ := lfs_ne p rs qs ne
  rw [← e]
  rw [mem_cutN] at m
  exact lst_le (mem_cutN.mpr ⟨m.1, fun q hq => m.2 q (h q hq)⟩)
theorem lst_perm {p : Int} {q q' : Int × Int} : cutN p [q', q] = cutN p [q, q'] := by
  unfold cutN
  apply List.filter_congr
  intro f _
  simp [Bool.and_comm]
theorem wid_nn {rs : List (Int × Int × Int)} (h : ∀ r ∈ rs, 0 ≤ r.2.2) (f : List Int) : 0 ≤ wid rs f := by
  induction rs with
  | nil => exact Int.le_refl _
  | cons r rs ih =>
    rw [wid_cons]
    have a := h r (List.mem_cons_self ..)
    have b := ih fun q m => h q (List.mem_cons_of_mem _ m)
    split <;> omega
/-- a fence that crosses only where one of two does is at most as wide as both -/
theorem wid_or {rs : List (Int × Int × Int)} (h : ∀ r ∈ rs, 0 ≤ r.2.2) {f g k : List Int} (c : ∀ r ∈ rs, crs k r = true → crs f r = true ∨ crs g r = true) : wid rs k ≤ wid rs f + wid rs g := by
  induction rs with
  | nil => exact Int.le_refl _
  | cons r rs ih =>
    rw [wid_cons, wid_cons, wid_cons]
    have a := h r (List.mem_cons_self ..)
    have b := ih (fun q m => h q (List.mem_cons_of_mem _ m)) (fun q m => c q (List.mem_cons_of_mem _ m))
    have c1 := c r (List.mem_cons_self ..)
    by_cases z : crs k r = true
    · rcases c1 z with z1 | z1
      · rw [if_pos z, if_pos z1]; split <;> omega
      · rw [if_pos z, if_pos z1]; split <;> omega
    · rw [if_neg z]; split <;> split <;> omega
theorem crs_crP (f : List Int) (r : Int × Int × Int) : crs f r = crP f (r.1, r.2.1) := rfl
theorem lst_both {p : Int} {rs : List (Int × Int × Int)} {q q' : Int × Int} (h : ∀ r ∈ rs, 0 ≤ r.2.2 ∧ 0 ≤ r.1 ∧ r.1 < r.2.1 ∧ r.2.1 < p) (g : 0 ≤ q.1 ∧ q.1 < q.2 ∧ q.2 < p) (g' : 0 ≤ q'.1 ∧ q'.1 < q'.2 ∧ q'.2 < p) : lstN p rs [q, q'] ≤ lstN p rs [q] + lstN p rs [q'] := by
  have h0 : ∀ r ∈ rs, 0 ≤ r.2.2 := fun r m => (h r m).1
  obtain ⟨f1, m1, e1⟩ := lfs_ne p rs [q] (cut_ne1 g)
  obtain ⟨f2, m2, e2⟩ := lfs_ne p rs [q'] (cut_ne1 g')
  have n1 := wid_nn h0 f1
  have n2 := wid_nn h0 f2
  rw [← e1, ← e2]
  rw [mem_cutN] at m1 m2
  have c1 := m1.2 q (by simp)
  have c2 := m2.2 q' (by simp)
  by_cases d1 : crP f1 q' = true
  · have := lst_le (rs := rs) (mem_cutN.mpr ⟨m1.1, fun z hz => by
      simp only [List.mem_cons, List.not_mem_nil, or_false] at hz
      rcases hz with rfl | rfl
      · exact c1
      · exact d1⟩ : f1 ∈ cutN p [q, q'])
    omega
  by_cases d2 : crP f2 q = true
  · have := lst_le (rs := rs) (mem_cutN.mpr ⟨m2.1, fun z hz => by
      simp only [List.mem_cons, List.not_mem_nil, or_false] at hz
      rcases hz with rfl | rfl
      · exact d2
      · exact c2⟩ : f2 ∈ cutN p [q, q'])
    omega
  let t : Int → Bool := fun x => decide (x ∈ f1) != decide (x ∈ f2)
  have z1 : (0 : Int) ∉ f1 := fun m => by have := ((mem_fcs (by omega)).mp m1.1).2.2 0 m; omega
  have z2 : (0 : Int) ∉ f2 := fun m => by have := ((mem_fcs (by omega)).mp m2.1).2.2 0 m; omega
  have t0 : t 0 = false := by simp [t, z1, z2]
  have cr : ∀ z : Int × Int, (t z.1 != t z.2) = (crP f1 z != crP f2 z) := fun z => by
    simp only [t, crP]
    cases decide (z.1 ∈ f1) <;> cases decide (z.1 ∈ f2) <;> cases decide (z.2 ∈ f1) <;> cases decide (z.2 ∈ f2) <;> rfl
  have k1 : (t q.1 != t q.2) = true := by rw [cr, c1]; simpa using d2
  have k2 : (t q'.1 != t q'.2) = true := by rw [cr, c2]; simpa using d1
  have mf : fcOf p t ∈ fcs p := by
    by_cases z : t q.2 = true
    · exact fcOf_fcs (x := q.2) (by omega) (by omega) (by omega) z
    · have z1 : t q.1 = true := by
        cases a : t q.1 <;> cases b : t q.2 <;> simp [a, b] at k1 z ⊢
      have : q.1 ≠ 0 := fun e => by rw [e, t0] at z1; cases z1
      exact fcOf_fcs (x := q.1) (by omega) (by omega) (by omega) z1
  have := lst_le (rs := rs) (mem_cutN.mpr ⟨mf, fun z hz => by
      simp only [List.mem_cons, List.not_mem_nil, or_false] at hz
      rcases hz with rfl | rfl
      · rw [crP_fcOf t0 g]; exact k1
      · rw [crP_fcOf t0 g']; exact k2⟩ : fcOf p t ∈ cutN p [q, q'])
  have := wid_or h0 (f := f1) (g := f2) (k := fcOf p t) (fun r m c => by
    have hr := h r m
    rw [crs_crP, crP_fcOf t0 (by simp only; omega), cr] at c
    rw [crs_crP, crs_crP]
    cases a : crP f1 (r.1, r.2.1)
    · rw [a] at c
      right
      simpa using c
    · exact .inl rfl)
  omega
/-- each of some numbers stays or changes by e: so does the least -/
theorem lst_chg {p : Int} {rs rs' : List (Int × Int × Int)} {qs : List (Int × Int)} {e : Int} (he : e = 1 ∨ e = -1) (ne : cutN p qs ≠ []) (h : ∀ f, wid rs' f = wid rs f ∨ wid rs' f = wid rs f + e) : lstN p rs' qs = lstN p rs qs ∨ lstN p rs' qs = lstN p rs qs + e := by
  obtain ⟨f, m, a⟩ := lfs_ne p rs qs ne
  obtain ⟨f', m', a'⟩ := lfs_ne p rs' qs ne
  have l1 := lst_le (rs := rs') m
  have l2 := lst_le (rs := rs) m'
  have := h f
  have := h f'
  omega
/-! ### a road changed -/
def chgN (rs : List (Int × Int × Int)) (i e : Int) : List (Int × Int × Int) := rs.take i.toNat ++ ((if (at' rs i).2.2 + e = 0 then [] else [((at' rs i).1, (at' rs i).2.1, (at' rs i).2.2 + e)]) ++ rs.drop (i.toNat + 1))
theorem wid_chg {rs : List (Int × Int × Int)} {i : Int} (h0 : 0 ≤ i) (h1 : i < rs.length) (e : Int) (f : List Int) : wid (chgN rs i e) f = wid rs f + if crs f (at' rs i) then e else 0 := by
  have e0 : wid rs f = wid (rs.take i.toNat) f + ((if crs f (at' rs i) then (at' rs i).2.2 else 0) + wid (rs.drop (i.toNat + 1)) f) := by
    conv => lhs; rw [split_at h0 h1]
    rw [wid_app, wid_cons]
  rw [e0]
  unfold chgN
  rw [wid_app, wid_app]
  have : wid (if (at' rs i).2.2 + e = 0 then [] else [((at' rs i).1, (at' rs i).2.1, (at' rs i).2.2 + e)]) f = if crs f (at' rs i) then (at' rs i).2.2 + e else 0 := by
    split
    · rename_i z
      rw [z]
      show (0 : Int) = _
      split <;> rfl
    · rw [wid_one]
      rfl
  rw [this]
  by_cases z : crs f (at' rs i) = true <;> simp [z] <;> omega
theorem at_pwr {α : Type} [Inhabited α] {P : α → α → Prop} {xs : List α} (h : ∀ i j : Int, 0 ≤ i → i < j → j < xs.length → P (at' xs i) (at' xs j)) : xs.Pairwise P := by
  rw [List.pairwise_iff_getElem]
  intro i j hi hj hij
  have := h i j (by omega) (by omega) (by omega)
  simpa [at', List.getD, hi, hj] using this
theorem prLt_trans {a b c : Int × Int × Int} (h1 : prLt a b = true) (h2 : prLt b c = true) : prLt a c = true := by
  simp only [prLt, Bool.or_eq_true, Bool.and_eq_true, decide_eq_true_eq, beq_iff_eq] at *
  omega
/-- ascending, step by step: ascending -/
theorem steps_pw {α : Type} [Inhabited α] {P : α → α → Prop} (tr : ∀ a b c, P a b → P b c → P a c) {xs : List α} (h : ∀ i : Int, 0 ≤ i → i < (xs.length : Int) - 1 → P (at' xs i) (at' xs (i + 1))) : xs.Pairwise P := by
  refine at_pwr fun i j h0 h1 h2 => ?_
  obtain ⟨n, hn⟩ : ∃ n : Nat, j = i + 1 + n := ⟨(j - i - 1).toNat, by omega⟩
  clear h1
  induction n generalizing j with
  | zero => have : j = i + 1 := by omega
            subst this; exact h i h0 (by omega)
  | succ n ih =>
    have a := ih (i + 1 + n) (by omega) rfl
    have b := h (i + 1 + n) (by omega) (by omega)
    subst hn
    exact tr _ _ _ a (by simpa [Int.add_assoc] using b)
theorem areLks_iff {p m : Int} {rs : List (Int × Int × Int)} : areLks p rs m = true ↔ (rs.length : Int) ≤ m ∧ (∀ r ∈ rs, isLk p r = true) ∧ rs.Pairwise fun x y => prLt x y = true := by
  simp only [areLks, Bool.and_eq_true, decide_eq_true_eq, List.all_eq_true]
  constructor
  · rintro ⟨⟨a, b⟩, c⟩
    exact ⟨a, b, steps_pw (P := fun x y => prLt x y = true) (fun _ _ _ => prLt_trans) fun i h0 h1 => c i (mem_rgI.mpr ⟨h0, by omega⟩)⟩
  · rintro ⟨a, b, c⟩
    exact ⟨⟨a, b⟩, fun i hi => by obtain ⟨h0, h1⟩ := mem_rgI.mp hi; exact at_pw c h0 (by omega) (by omega)⟩
theorem chg_lks {p m : Int} {rs : List (Int × Int × Int)} {i e : Int} (h0 : 0 ≤ i) (h1 : i < rs.length) (g : areLks p rs m = true) (e1 : 0 ≤ (at' rs i).2.2 + e) (e2 : (at' rs i).2.2 + e < 7) : areLks p (chgN rs i e) m = true := by
  rw [areLks_iff] at g ⊢
  obtain ⟨a, b, c⟩ := g
  have hi := b _ (at_mem h0 h1)
  rw [split_at h0 h1] at a b c
  unfold chgN
  generalize rs.take i.toNat = A at *
  generalize rs.drop (i.toNat + 1) = B at *
  generalize at' rs i = r at *
  have z := isLk_lt hi
  rw [List.pairwise_append] at c
  obtain ⟨c1, c2, c3⟩ := c
  obtain ⟨c4, c5⟩ := List.pairwise_cons.mp c2
  split
  · rename_i w
    refine ⟨?_, fun q hq => ?_, ?_⟩
    · simp at a ⊢; omega
    · rw [List.nil_append] at hq
      rcases List.mem_append.mp hq with hq | hq
      · exact b q (by simp [hq])
      · exact b q (by simp [hq])
    · rw [List.nil_append, List.pairwise_append]
      exact ⟨c1, c5, fun x hx y hy => c3 x hx y (List.mem_cons_of_mem _ hy)⟩
  · rename_i w
    refine ⟨?_, fun q hq => ?_, ?_⟩
    · simp at a ⊢; omega
    · simp only [List.mem_append, List.mem_cons, List.not_mem_nil, or_false] at hq
      rcases hq with hq | rfl | hq
      · exact b q (by simp [hq])
      · simp only [isLk, Bool.and_eq_true, decide_eq_true_eq]
        refine ⟨⟨⟨⟨⟨⟨?_, ?_⟩, ?_⟩, ?_⟩, ?_⟩, ?_⟩, ?_⟩ <;> omega
      · exact b q (by simp [hq])
    · rw [List.pairwise_append]
      refine ⟨c1, ?_, fun x hx y hy => ?_⟩
      · rw [List.singleton_append, List.pairwise_cons]
        exact ⟨fun y hy => c4 y hy, c5⟩
      · rw [List.singleton_append, List.mem_cons] at hy
        rcases hy with rfl | hy
        · exact c3 x hx r (List.mem_cons_self ..)
        · exact c3 x hx y (List.mem_cons_of_mem _ hy)
/-! ### comprehensions over written lists -/
def kC2 {β : Type} (y : Option β) (ys : List β) (h : AH) : R (List β) := .ok (match y with | some y => y :: ys | none => ys) h
def kC1 {β : Type} (body : D → AH → R (Option β)) (xs : List D) (y : Option β) (h : AH) : R (List β) := (lcEv body xs h).bind (kC2 y)
theorem lc_nil {β : Type} (body : D → AH → R (Option β)) (h : AH) : lcEv body [] h = .ok [] h := rfl
theorem lc_cons {β : Type} (body : D → AH → R (Option β)) (x : D) (xs : List D) (h : AH) : lcEv body (x :: xs) h = (body x h).bind (kC1 body xs) := rfl
@[simp] theorem kC1_at {β : Type} (body : D → AH → R (Option β)) (xs : List D) (y : Option β) (h : AH) : kC1 body xs y h = (lcEv body xs h).bind (kC2 y) := rfl
@[simp] theorem kC2_s {β : Type} (y : β) (ys : List β) (h : AH) : kC2 (some y) ys h = .ok (y :: ys) h := rfl
@[simp] theorem kC2_n {β : Type} (ys : List β) (h : AH) : kC2 none ys h = .ok ys h := rfl
end Rw
namespace Rw
/-! ### running on, as a predicate -/
@[simp] theorem then_if {c : Prop} [Decidable c] (a b : O) (f : Env → AH → O) : (if c then a else b).then f = if c then a.then f else b.then f := by split <;> rfl
theorem nx_if {c : Prop} [Decidable c] {a b : O} {P : Env → AH → Prop} : Nx (if c then a else b) P ↔ (c → Nx a P) ∧ (¬ c → Nx b P) := by
  by_cases h : c <;> simp [h]
theorem good_if {c : Prop} [Decidable c] {a b : O} : Good (if c then a else b) ↔ (c → Good a) ∧ (¬ c → Good b) := by
  by_cases h : c <;> simp [h]
@[simp] theorem nx_rt (d : D) (f : Bool) (h : AH) (P : Env → AH → Prop) : Nx (.rt d f h) P = False := rfl
@[simp] theorem good_rf (h : AH) : ¬ Good (.rt (.bl false) false h) := by
  rintro ⟨_, e⟩
  cases e
end Rw
namespace Rw
theorem then_as (o : O) (f g : Env → AH → O) : (o.then f).then g = o.then fun env h => (f env h).then g := by cases o <;> rfl
theorem ss_app (r : Ev) : ∀ (a b : List S) (env : Env) (h : AH), ssEv r (a ++ b) env h = (ssEv r a env h).then (ssEv r b)
  | [], b, env, h => rfl
  | s :: a, b, env, h => by
    show (r.s s env h).then (fun env h => ssEv r (a ++ b) env h) = ((r.s s env h).then fun env h => ssEv r a env h).then (ssEv r b)
    rw [then_as]
    congr 1
    funext env h
    exact ss_app r a b env h
/-- a block in two -/
theorem ss_cut (n : Nat) (r : Ev) (ss : List S) (env : Env) (h : AH) : ssEv r ss env h = (ssEv r (ss.take n) env h).then (ssEv r (ss.drop n)) := by
  rw [← ss_app, List.take_append_drop]
end Rw
namespace Rw
@[simp] theorem bi_max2 (h : AH) (a b : Int) : biEv .max2 h [.int a, .int b] = some (.int (max a b), false) := by
  show some (D.int (if b > a then b else a), false) = _
  congr 3
  show _ = if a ≤ b then b else a
  split <;> split <;> omega
@[simp] theorem bi_min2 (h : AH) (a b : Int) : biEv .min2 h [.int a, .int b] = some (.int (min a b), false) := by
  show some (D.int (if b < a then b else a), false) = _
  congr 3
  show _ = if a ≤ b then a else b
  split <;> split <;> omega
end Rw
namespace Rw
@[simp 1100] theorem if_andN {P : Prop} [Decidable P] (c : Bool) (h : AH) : (if P then R.ok (D.bl (!decide P), false) h else R.ok (D.bl c, false) h) = R.ok (.bl (!decide P && c), false) h := by by_cases q : P <;> simp [q]
@[simp 1100] theorem if_orN {P : Prop} [Decidable P] (c : Bool) (h : AH) : (if P then R.ok (D.bl c, false) h else R.ok (D.bl (!decide P), false) h) = R.ok (.bl (!decide P || c), false) h := by by_cases q : P <;> simp [q]
@[simp 1100] theorem if_andNP {P : Prop} [Decidable P] (c : Bool) (h : AH) : (if P then R.ok (D.bl false, false) h else R.ok (D.bl c, false) h) = R.ok (.bl (!decide P && c), false) h := by by_cases q : P <;> simp [q]
@[simp 1100] theorem if_orNP {P : Prop} [Decidable P] (c : Bool) (h : AH) : (if P then R.ok (D.bl c, false) h else R.ok (D.bl true, false) h) = R.ok (.bl (!decide P || c), false) h := by by_cases q : P <;> simp [q]
@[simp] theorem if_fst {c : Prop} [Decidable c] (x y : DF) : (if c then x else y).1 = if c then x.1 else y.1 := by split <;> rfl
@[simp] theorem if_blD {c : Prop} [Decidable c] (a b : Bool) : (if c then D.bl a else D.bl b) = D.bl (if c then a else b) := by split <;> rfl
end Rw
namespace Rw
def kSi2 (od : DF) (d : D) (env : Env) (id : DF) (h : AH) : R Env := match setEv h od.1 id.1 d with | some h3 => .ok env h3 | none => .bad
def kSi1 (r : Ev) (i : E) (d : D) (env : Env) (od : DF) (h : AH) : R Env := (r.e i env h).nox.bind (kSi2 od d env)
@[simp] theorem asg_ix (r : Ev) (k : Nat) (o i : E) (d : D) (env : Env) (h : AH) : asgT r (k + 1) (.ix o i) d env h = (r.e o env h).nox.bind (kSi1 r i d env) := rfl
@[simp] theorem kSi1_at (r : Ev) (i : E) (d : D) (env : Env) (od : DF) (h : AH) : kSi1 r i d env od h = (r.e i env h).nox.bind (kSi2 od d env) := rfl
@[simp] theorem kSi2_at (od : DF) (d : D) (env : Env) (id : DF) (h : AH) : kSi2 od d env id h = (match setEv h od.1 id.1 d with | some h3 => .ok env h3 | none => .bad) := rfl
theorem set_ref {α : Type} {h : AH} {n : Nat} {f : α → D} {xs : List α} (e : h.os[n]? = some (.lst (xs.map f))) {i : Int} (h0 : 0 ≤ i) (h1 : i < xs.length) (v : α) (ht : (f v).top = 0) : setEv h (.ref n) (.int i) (f v) = some (h.put n (.lst ((xs.set i.toNat v).map f)) 0) := by
  have e2 : ixOf xs.length i = some i.toNat := ixOf_at h0 h1
  simp only [setEv, e, List.length_map, e2, Option.map_some, ht, List.map_set]
theorem pl_tint (f : List Int) : (tint f).plain = true := by
  show (f.map D.int).all (plK 11) = true
  simp [List.all_eq_true, plK]
theorem cmp_neT (h : AH) (f : List Int) : cmpEv .ne h (tint f) (.tup []) = some (!f.isEmpty) := by
  have e : res h (tint f) = tint f := rfl
  have e' : res h (D.tup []) = .tup [] := rfl
  show (if (res h (tint f)).plain && (res h (D.tup [])).plain then some (!deq (res h (tint f)) (res h (D.tup []))) else none) = _
  rw [e, e', pl_tint]
  cases f <;> rfl
end Rw
namespace Rw
theorem whl_step {c : Env → AH → R DF} {body : Env → AH → O} {n : Nat} {env env2 : Env} {h h2 : AH} {d : DF} (hc : c env h = .ok d h) (ht : tru h d.1 = some true) (hb : body env h = .nx env2 h2) : whlEv c body (n + 1) env h = whlEv c body n env2 h2 := by
  show (c env h).o env _ = _
  rw [hc, o_ok, ht]
  show (body env h).loop _ = _
  rw [hb, l_nx]
theorem whl_end {c : Env → AH → R DF} {body : Env → AH → O} {n : Nat} {env : Env} {h : AH} {d : DF} (hc : c env h = .ok d h) (ht : tru h d.1 = some false) : whlEv c body (n + 1) env h = .nx env h := by
  show (c env h).o env _ = _
  rw [hc, o_ok, ht]
end Rw
end

section
set_option Elab.async false
set_option linter.all false
set_option maxRecDepth 100000
set_option maxHeartbeats 4000000
/-! RfB3: sorting; registered lists of ints. -/
namespace Rw
def insB {α : Type} (lt : α → α → Bool) (x : α) : List α → List α
  | [] => [x]
  | y :: ys => if lt y x then y :: insB lt x ys else x :: y :: ys
def srtB {α : Type} (lt : α → α → Bool) (xs : List α) : List α := xs.foldr (insB lt) []
theorem mem_insB {α : Type} {lt : α → α → Bool} {x z : α} : ∀ {ys : List α}, z ∈ insB lt x ys ↔ z = x ∨ z ∈ ys
  | [] => by simp [insB]
  | y :: ys => by
    unfold insB
    split
    · rw [List.mem_cons, mem_insB (ys := ys), List.mem_cons]
      constructor
      · rintro (h | h | h) <;> simp [h]
      · rintro (h | h | h) <;> simp [h]
    · simp
theorem mem_srtB {α : Type} {lt : α → α → Bool} {z : α} : ∀ {xs : List α}, z ∈ srtB lt xs ↔ z ∈ xs
  | [] => by simp [srtB]
  | x :: xs => by
    show z ∈ insB lt x (srtB lt xs) ↔ _
    rw [mem_insB, mem_srtB (xs := xs), List.mem_cons]
theorem insB_len {α : Type} {lt : α → α → Bool} {x : α} : ∀ {ys : List α}, (insB lt x ys).length = ys.length + 1
  | [] => rfl
  | y :: ys => by
    unfold insB
    split
    · rw [List.length_cons, insB_len (ys := ys), List.length_cons]
    · rfl
theorem srtB_len {α : Type} {lt : α → α → Bool} : ∀ {xs : List α}, (srtB lt xs).length = xs.length
  | [] => rfl
  | x :: xs => by
    show (insB lt x (srtB lt xs)).length = _
    rw [insB_len, srtB_len (xs := xs), List.length_cons]
theorem dins_map {α : Type} {lt : α → α → Bool} {f : α → D} {x : α} : ∀ {ys : List α}, (∀ y ∈ ys, dlt (f y) (f x) = lt y x) → dins (f x) (ys.map f) = (insB lt x ys).map f
  | [], _ => rfl
  | y :: ys, h => by
    have a := h y (List.mem_cons_self ..)
    have b := dins_map (ys := ys) fun z m => h z (List.mem_cons_of_mem _ m)
    rw [List.map_cons]
    unfold dins insB
    rw [a]
    split
    · rw [b, List.map_cons]
    · rfl
theorem dsort_map {α : Type} {lt : α → α → Bool} {f : α → D} : ∀ {xs : List α}, (∀ a ∈ xs, ∀ b ∈ xs, dlt (f a) (f b) = lt a b) → dsort (xs.map f) = (srtB lt xs).map f
  | [], _ => rfl
  | x :: xs, h => by
    show dins (f x) (dsort (xs.map f)) = (insB lt x (srtB lt xs)).map f
    rw [dsort_map (xs := xs) fun a ha b hb => h a (List.mem_cons_of_mem _ ha) b (List.mem_cons_of_mem _ hb)]
    exact dins_map fun y hy => h y (List.mem_cons_of_mem _ (mem_srtB.mp hy)) x (List.mem_cons_self ..)
structure LtOk {α : Type} (lt : α → α → Bool) : Prop where
  irr : ∀ a, lt a a = false
  tr : ∀ a b c, lt a b = true → lt b c = true → lt a c = true
  tot : ∀ a b, a ≠ b → lt a b = true ∨ lt b a = true
theorem insB_pw {α : Type} {lt : α → α → Bool} (o : LtOk lt) {x : α} : ∀ {ys : List α}, ys.Pairwise (fun a b => lt a b = true) → x ∉ ys → (insB lt x ys).Pairwise (fun a b => lt a b = true)
  | [], _, _ => by simp [insB]
  | y :: ys, h, n => by
    obtain ⟨h1, h2⟩ := List.pairwise_cons.mp h
    have ny : ¬ x = y := fun e => n (by simp [e])
    have n2 : x ∉ ys := fun m => n (List.mem_cons_of_mem _ m)
    unfold insB
    split
    · rename_i c
      rw [List.pairwise_cons]
      refine ⟨fun z hz => ?_, insB_pw o h2 n2⟩
      rcases mem_insB.mp hz with rfl | hz
      · exact c
      · exact h1 z hz
    · rename_i c
      have c2 : lt x y = true := (o.tot x y ny).resolve_right c
      rw [List.pairwise_cons]
      refine ⟨fun z hz => ?_, h⟩
      rcases List.mem_cons.mp hz with rfl | hz
      · exact c2
      · exact o.tr _ _ _ c2 (h1 z hz)
theorem srtB_pw {α : Type} {lt : α → α → Bool} (o : LtOk lt) : ∀ {xs : List α}, xs.Nodup → (srtB lt xs).Pairwise (fun a b => lt a b = true)
  | [], _ => by simp [srtB]
  | x :: xs, h => by
    obtain ⟨h1, h2⟩ := List.nodup_cons.mp h
    exact insB_pw o (srtB_pw o h2) fun m => h1 (mem_srtB.mp m)
/-- ascending, with the same items: the same -/
theorem pw_extB {α : Type} {lt : α → α → Bool} (o : LtOk lt) : ∀ {xs ys : List α}, xs.Pairwise (fun a b => lt a b = true) → ys.Pairwise (fun a b => lt a b = true) → (∀ x, x ∈ xs ↔ x ∈ ys) → xs = ys
  | [], [], _, _, _ => rfl
  | [], y :: ys, _, _, h => by have := (h y).mpr (List.mem_cons_self ..); cases this
  | x :: xs, [], _, _, h => by have := (h x).mp (List.mem_cons_self ..); cases this
  | x :: xs, y :: ys, h1, h2, h => by
    obtain ⟨a1, a2⟩ := List.pairwise_cons.mp h1
    obtain ⟨b1, b2⟩ := List.pairwise_cons.mp h2
    have no : ∀ a b, lt a b = true → lt b a = true → False := fun a b p q => by have := o.tr _ _ _ p q; rw [o.irr] at this; cases this
    have e : x = y := by
      rcases List.mem_cons.mp ((h x).mp (List.mem_cons_self ..)) with e | m
      · exact e
      · rcases List.mem_cons.mp ((h y).mpr (List.mem_cons_self ..)) with e | m'
        · exact e.symm
        · exact (no _ _ (a1 y m') (b1 x m)).elim
    subst e
    congr 1
    refine pw_extB o a2 b2 fun z => ⟨fun m => ?_, fun m => ?_⟩
    · rcases List.mem_cons.mp ((h z).mp (List.mem_cons_of_mem _ m)) with e | m'
      · have := a1 z m; rw [e, o.irr] at this; cases this
      · exact m'
    · rcases List.mem_cons.mp ((h z).mpr (List.mem_cons_of_mem _ m)) with e | m'
      · have := b1 z m; rw [e, o.irr] at this; cases this
      · exact m'
theorem srtB_eq {α : Type} {lt : α → α → Bool} (o : LtOk lt) {xs ys : List α} (h : xs.Nodup) (h2 : ys.Pairwise (fun a b => lt a b = true)) (s : ∀ x, x ∈ xs ↔ x ∈ ys) : srtB lt xs = ys :=
  pw_extB o (srtB_pw o h) h2 fun x => mem_srtB.trans (s x)
/-! ### ints -/
def ltI (a b : Int) : Bool := decide (a < b)
theorem ltI_ok : LtOk ltI := ⟨by simp [ltI], by simp [ltI]; intros; omega, by simp [ltI]; intros; omega⟩
theorem dsort_ints (xs : List Int) : dsort (xs.map .int) = (srtB ltI xs).map .int := dsort_map fun _ _ _ _ => rfl
theorem bi_sortI (h : AH) {xs : List Int} (hl : xs.length ≤ LN) : biEv .sorted h [.lst (xs.map .int)] = some (.lst ((srtB ltI xs).map .int), true) := by
  have l : decide ((xs.map D.int).length ≤ LN) = true := by simpa using hl
  simp only [biEv, stems, litems, Option.bind_some, sortable_ints, l, Bool.and_self, if_true, dsort_ints]
theorem bi_sortR {h : AH} {n : Nat} {xs : List Int} (e : h.os[n]? = some (.lst (xs.map .int))) (hl : xs.length ≤ LN) : biEv .sorted h [.ref n] = some (.lst ((srtB ltI xs).map .int), true) := by
  have l : decide ((xs.map D.int).length ≤ LN) = true := by simpa using hl
  simp only [biEv, stems, litems, e, Option.bind_some, sortable_ints, l, Bool.and_self, if_true, dsort_ints]
theorem srtI_eq {xs ys : List Int} (h : xs.Nodup) (h2 : ys.Pairwise (· < ·)) (s : ∀ x, x ∈ xs ↔ x ∈ ys) : srtB ltI xs = ys :=
  srtB_eq ltI_ok h (h2.imp fun h => by simpa [ltI] using h) s
/-! ### registered lists of ints -/
theorem in_ref {h : AH} {n : Nat} {f : List Int} (e : h.os[n]? = some (.lst (f.map .int))) (x : Int) : inEv h (.int x) (.ref n) = some (decide (x ∈ f)) := by
  simp only [inEv, e]
  rw [plain_ints, any_ints]
  rfl
@[simp] theorem cmp_ninR (h : AH) (x : D) (n : Nat) : cmpEv .nin h x (.ref n) = (inEv h x (.ref n)).map fun b => !b := rfl
theorem ix_ref {α : Type} [Inhabited α] {h : AH} {n : Nat} {f : α → D} {xs : List α} (e : h.os[n]? = some (.lst (xs.map f))) {i : Int} (h0 : 0 ≤ i) (h1 : i < xs.length) : ixEv h (.ref n) (.int i) = some (f (at' xs i), false) := by
  have e2 : ixOf xs.length i = some i.toNat := ixOf_at h0 h1
  have z : i.toNat < xs.length := by omega
  simp [ixEv, ddOf, items, e, e2, z, at', List.getD]
theorem me_ext {h : AH} {n : Nat} {xs ys : List D} (e : h.os[n]? = some (.lst xs)) (hl : xs.length + ys.length ≤ LN) : meEv .extend h (.ref n) [.lst ys] = .ok (.non, false) (h.put n (.lst (xs ++ ys)) (topL ys)) := by
  simp only [meEv, e]
  rw [if_pos hl]
theorem mt_ext {h : AH} {n : Nat} {xs : List D} (e : h.os[n]? = some (.lst xs)) : meTy .extend h (.ref n) = true := by simp [meTy, litems, e]
theorem mt_pop {h : AH} {n : Nat} {xs : List D} (e : h.os[n]? = some (.lst xs)) : meTy .popAt h (.ref n) = true := by simp [meTy, litems, e]
/-- the heap with a new list of ints -/
abbrev hN (h : AH) (xs : List D) : AH := ⟨h.os ++ [.lst xs], h.fl⟩
theorem hN_at (h : AH) (xs : List D) : (hN h xs).os[h.os.length]? = some (.lst xs) := by simp
theorem hN_put (h : AH) (xs ys : List D) : (hN h xs).put h.os.length (.lst ys) 0 = hN h ys := by simp [AH.put]
theorem reg_N (h : AH) {xs : List D} (e : topL xs = 0) : regEv h (.lst xs, true) = .ok (.ref h.os.length, false) (hN h xs) := by simp [regEv, AH.new, e]
theorem leave_N {h : AH} {xs : List D} {d : D} {f : Bool} (hf : h.fl ≤ h.os.length) (e : d.top = 0) : leave h.os.length d f (hN h xs) = .ok (d, f) h := by
  rw [leave_take (h := hN h xs) hf e]
  congr 1
  obtain ⟨os, fl⟩ := h
  simp
end Rw
namespace Rw
theorem deqL_int : ∀ (f g : List Int), deqL (f.map .int) (g.map .int) = decide (f = g)
  | [], [] => rfl
  | [], _ :: _ => rfl
  | _ :: _, [] => rfl
  | x :: f, y :: g => by
    show (x == y && deqL (f.map .int) (g.map .int)) = _
    rw [deqL_int f g]
    by_cases a : x = y <;> by_cases b : f = g <;> simp [a, b]
theorem deq_tint (f g : List Int) : deq (tint f) (tint g) = decide (f = g) := deqL_int f g
theorem any_tints (x : List Int) : ∀ fs : List (List Int), ((fs.map tint).any fun z => deq z (tint x)) = decide (x ∈ fs)
  | [] => by simp
  | y :: fs => by
    rw [List.map_cons, List.any_cons, any_tints x fs, deq_tint]
    by_cases e : y = x
    · subst e; simp
    · have e' : ¬ x = y := fun z => e z.symm
      simp [e, e']
theorem plain_tints (fs : List (List Int)) : plainL (fs.map tint) = true := by
  unfold plainL
  rw [List.all_map]
  simp [List.all_eq_true, plK]
theorem in_refT {h : AH} {n : Nat} {fs : List (List Int)} (e : h.os[n]? = some (.lst (fs.map tint))) (x : List Int) : inEv h (tint x) (.ref n) = some (decide (x ∈ fs)) := by
  have px := pl_tint x
  simp only [inEv, e]
  rw [plain_tints, any_tints, px]
  rfl
theorem yfz {K : Kn} {n : Nat} {env : Env} {h : AH} {i m : Nat} {xs : List D} (e1 : env[i]? = some (some (.ref m))) (e2 : h.os[m]? = some (.lst xs)) : (evN K (n + 1)).s (.fz i) env h = .nx (env.set i (some (.lst xs))) ⟨h.os.set m .dead, h.fl⟩ := by
  show sEv K (evN K n) (.fz i) env h = _
  simp only [sEv, e1, e2]
end Rw
end

section
set_option Elab.async false
set_option linter.all false
set_option maxRecDepth 100000
set_option maxHeartbeats 4000000
/-! RfB4: plain laws about points that hang together. -/
namespace Rw
/-- the roads stand between points -/
def Pts (p : Int) (rs : List (Int × Int × Int)) : Prop := ∀ r ∈ rs, 0 ≤ r.1 ∧ r.1 < r.2.1 ∧ r.2.1 < p
def Clo (rs : List (Int × Int × Int)) (S : Int → Prop) : Prop := ∀ r ∈ rs, S r.1 ↔ S r.2.1
def Hang (rs : List (Int × Int × Int)) (x y : Int) : Prop := ∀ S, Clo rs S → S x → S y
theorem Hang.refl {rs : List (Int × Int × Int)} (x : Int) : Hang rs x x := fun _ _ h => h
theorem Hang.trans {rs : List (Int × Int × Int)} {x y z : Int} (a : Hang rs x y) (b : Hang rs y z) : Hang rs x z := fun S c h => b S c (a S c h)
theorem Hang.symm {rs : List (Int × Int × Int)} {x y : Int} (a : Hang rs x y) : Hang rs y x := fun S c h => by
  refine Classical.byContradiction fun n => ?_
  exact a (fun z => ¬ S z) (fun r m => not_congr (c r m)) n h
theorem Hang.road {rs : List (Int × Int × Int)} {r : Int × Int × Int} (m : r ∈ rs) : Hang rs r.1 r.2.1 := fun S c h => (c r m).mp h
/-! ### found, round by round -/
def stF (f : List Int) (r : Int × Int × Int) : List Int := f ++ [r.1, r.2.1].filter fun e => decide (e ∉ f) && (decide (r.1 ∈ f) || decide (r.2.1 ∈ f))
def rdF (rs : List (Int × Int × Int)) (f : List Int) : List Int := rs.foldl stF f
def itF (rs : List (Int × Int × Int)) : Nat → List Int → List Int
  | 0, f => f
  | n + 1, f => rdF rs (itF rs n f)
theorem mem_stF {f : List Int} {r : Int × Int × Int} {x : Int} : x ∈ stF f r ↔ x ∈ f ∨ ((x = r.1 ∨ x = r.2.1) ∧ (r.1 ∈ f ∨ r.2.1 ∈ f)) := by
  unfold stF
  simp only [List.mem_append, List.mem_filter, List.mem_cons, List.not_mem_nil, or_false, Bool.and_eq_true, Bool.or_eq_true, decide_eq_true_eq]
  by_cases h : x ∈ f <;> simp [h]
theorem stF_nodup {f : List Int} {r : Int × Int × Int} (h : f.Nodup) (hr : r.1 ≠ r.2.1) : (stF f r).Nodup := by
  unfold stF
  rw [List.nodup_append]
  refine ⟨h, ?_, fun a ha b hb e => ?_⟩
  · exact List.Nodup.sublist List.filter_sublist (by simp [hr])
  · subst e
    have := (List.mem_filter.mp hb).2
    simp [ha] at this
/-- what stays as the roads are gone through -/
theorem foldl_inv {α β : Type} (P : β → Prop) {f : β → α → β} : ∀ {xs : List α} {b : β}, P b → (∀ b, ∀ x ∈ xs, P b → P (f b x)) → P (xs.foldl f b)
  | [], _, h, _ => h
  | x :: xs, b, h, st => foldl_inv P (xs := xs) (st b x (List.mem_cons_self ..) h) fun b y m => st b y (List.mem_cons_of_mem _ m)
theorem foldl_sub {rs : List (Int × Int × Int)} : ∀ {qs : List (Int × Int × Int)} {f : List Int} {x : Int}, x ∈ f → x ∈ qs.foldl stF f
  | [], _, _, h => h
  | q :: qs, f, x, h => foldl_sub (rs := rs) (qs := qs) (mem_stF.mpr (.inl h))
/-- a road with one end found has both found behind it -/
theorem rdF_got {rs : List (Int × Int × Int)} {r : Int × Int × Int} (m : r ∈ rs) {f : List Int} (h : r.1 ∈ f ∨ r.2.1 ∈ f) : r.1 ∈ rdF rs f ∧ r.2.1 ∈ rdF rs f := by
  obtain ⟨a, b, rfl⟩ := List.append_of_mem m
  unfold rdF
  rw [List.foldl_append, List.foldl_cons]
  have h1 : r.1 ∈ a.foldl stF f ∨ r.2.1 ∈ a.foldl stF f := h.imp (foldl_sub (rs := a)) (foldl_sub (rs := a))
  exact ⟨foldl_sub (rs := a) (mem_stF.mpr (.inr ⟨.inl rfl, h1⟩)), foldl_sub (rs := a) (mem_stF.mpr (.inr ⟨.inr rfl, h1⟩))⟩
theorem stF_len (f : List Int) (r : Int × Int × Int) : f.length ≤ (stF f r).length := by simp [stF]
theorem rdF_len {rs : List (Int × Int × Int)} (f : List Int) : f.length ≤ (rdF rs f).length :=
  foldl_inv (fun b => f.length ≤ b.length) (Nat.le_refl _) fun b x _ h => Nat.le_trans h (stF_len b x)
structure FInv (p : Int) (rs : List (Int × Int × Int)) (x : Int) (f : List Int) : Prop where
  nd : f.Nodup
  pt : ∀ y ∈ f, 0 ≤ y ∧ y < p
  hg : ∀ y ∈ f, Hang rs x y
  me : x ∈ f
theorem FInv.st {p : Int} {rs : List (Int × Int × Int)} {x : Int} {f : List Int} (i : FInv p rs x f) (g : Pts p rs) {r : Int × Int × Int} (m : r ∈ rs) : FInv p rs x (stF f r) := by
  have z := g r m
  refine ⟨stF_nodup i.nd (by omega), fun y hy => ?_, fun y hy => ?_, mem_stF.mpr (.inl i.me)⟩
  · rcases mem_stF.mp hy with h | ⟨h | h, -⟩
    · exact i.pt y h
    · omega
    · omega
  · rcases mem_stF.mp hy with h | ⟨h | h, q⟩
    · exact i.hg y h
    · subst h
      rcases q with q | q
      · exact i.hg _ q
      · exact (i.hg _ q).trans (Hang.road m).symm
    · subst h
      rcases q with q | q
      · exact (i.hg _ q).trans (Hang.road m)
      · exact i.hg _ q
theorem FInv.rd {p : Int} {rs : List (Int × Int × Int)} {x : Int} {f : List Int} (i : FInv p rs x f) (g : Pts p rs) : FInv p rs x (rdF rs f) :=
  foldl_inv (FInv p rs x) i fun b r m h => h.st g m
theorem FInv.it {p : Int} {rs : List (Int × Int × Int)} {x : Int} (g : Pts p rs) (h0 : 0 ≤ x) (h1 : x < p) : ∀ n, FInv p rs x (itF rs n [x])
  | 0 => ⟨by simp [itF], by simp [itF]; omega, by simp [itF]; exact Hang.refl x, by simp [itF]⟩
  | n + 1 => (FInv.it g h0 h1 n).rd g
/-- nothing new: closed -/
theorem rdF_cl {rs : List (Int × Int × Int)} {f : List Int} (h : (rdF rs f).length = f.length) : Clo rs (· ∈ f) := by
  have key : ∀ (qs : List (Int × Int × Int)) (f : List Int), (qs.foldl stF f).length = f.length → ∀ r ∈ qs, r.1 ∈ f ↔ r.2.1 ∈ f := by
    intro qs
    induction qs with
    | nil => simp
    | cons q qs ih =>
      intro f h r m
      rw [List.foldl_cons] at h
      have a : (stF f q).length = f.length := by
        have := stF_len f q
        have : (stF f q).length ≤ (qs.foldl stF (stF f q)).length := foldl_inv (fun b => (stF f q).length ≤ b.length) (Nat.le_refl _) fun b x _ h => Nat.le_trans h (stF_len b x)
        omega
      have e : stF f q = f := by
        unfold stF at a ⊢
        rw [List.length_append] at a
        have : ([q.1, q.2.1].filter fun e => decide (e ∉ f) && (decide (q.1 ∈ f) || decide (q.2.1 ∈ f))) = [] := List.length_eq_zero_iff.mp (by omega)
        rw [this, List.append_nil]
      rcases List.mem_cons.mp m with rfl | m
      · constructor
        · intro z; rw [← e]; exact mem_stF.mpr (.inr ⟨.inr rfl, .inl z⟩)
        · intro z; rw [← e]; exact mem_stF.mpr (.inr ⟨.inl rfl, .inr z⟩)
      · rw [e] at h
        exact ih f h r m
  exact key rs f h
theorem stF_id {f : List Int} {r : Int × Int × Int} (h : r.1 ∈ f ↔ r.2.1 ∈ f) : stF f r = f := by
  unfold stF
  have : ([r.1, r.2.1].filter fun e => decide (e ∉ f) && (decide (r.1 ∈ f) || decide (r.2.1 ∈ f))) = [] := by
    rw [List.filter_eq_nil_iff]
    intro e he
    simp only [List.mem_cons, List.not_mem_nil, or_false] at he
    by_cases z : r.1 ∈ f
    · have z2 := h.mp z
      rcases he with rfl | rfl <;> simp [z, z2]
    · have z2 : r.2.1 ∉ f := fun w => z (h.mpr w)
      simp [z, z2]
  rw [this, List.append_nil]
theorem rdF_id {rs : List (Int × Int × Int)} {f : List Int} (h : Clo rs (· ∈ f)) : rdF rs f = f := by
  unfold rdF
  have key : ∀ qs : List (Int × Int × Int), (∀ r ∈ qs, r.1 ∈ f ↔ r.2.1 ∈ f) → qs.foldl stF f = f := by
    intro qs
    induction qs with
    | nil => intro; rfl
    | cons q qs ih =>
      intro h
      rw [List.foldl_cons, stF_id (h q (List.mem_cons_self ..)), ih fun r m => h r (List.mem_cons_of_mem _ m)]
  exact key rs h
theorem nd_le {α : Type} [DecidableEq α] : ∀ {f ys : List α}, f.Nodup → (∀ y ∈ f, y ∈ ys) → f.length ≤ ys.length
  | [], _, _, _ => Nat.zero_le _
  | x :: f, ys, h, s => by
    obtain ⟨h1, h2⟩ := List.nodup_cons.mp h
    have m := s x (List.mem_cons_self ..)
    have := nd_le (ys := ys.erase x) h2 fun y hy => (List.mem_erase_of_ne (fun e => h1 (by rw [← e]; exact hy))).mpr (s y (List.mem_cons_of_mem _ hy))
    rw [List.length_erase_of_mem m] at this
    have := List.length_pos_of_mem m
    rw [List.length_cons]
    omega
theorem nodup_le {f : List Int} {p : Int} (h : f.Nodup) (g : ∀ y ∈ f, 0 ≤ y ∧ y < p) : f.length ≤ p.toNat := by
  have := nd_le (ys := rgI 0 p) h fun y m => mem_rgI.mpr (g y m)
  rw [rgI_len] at this
  omega
theorem itF_cl {p : Int} {rs : List (Int × Int × Int)} {x : Int} (g : Pts p rs) (h0 : 0 ≤ x) (h1 : x < p) : ∀ n, Clo rs (· ∈ itF rs n [x]) ∨ n + 1 ≤ (itF rs n [x]).length
  | 0 => .inr (by simp [itF])
  | n + 1 => by
    rcases itF_cl g h0 h1 n with c | l
    · left
      show Clo rs (· ∈ rdF rs (itF rs n [x]))
      rw [rdF_id c]
      exact c
    · have := rdF_len (rs := rs) (itF rs n [x])
      by_cases e : (rdF rs (itF rs n [x])).length = (itF rs n [x]).length
      · left
        show Clo rs (· ∈ rdF rs (itF rs n [x]))
        rw [rdF_id (rdF_cl e)]
        exact rdF_cl e
      · right
        show n + 1 + 1 ≤ (rdF rs (itF rs n [x])).length
        omega
/-- behind as many rounds as there are points: just the points that hang together with the first one -/
theorem mem_itF {p : Int} {rs : List (Int × Int × Int)} {x : Int} (g : Pts p rs) (h0 : 0 ≤ x) (h1 : x < p) {y : Int} : y ∈ itF rs p.toNat [x] ↔ Hang rs x y := by
  have i := FInv.it g h0 h1 p.toNat
  constructor
  · exact i.hg y
  · intro h
    rcases itF_cl g h0 h1 p.toNat with c | l
    · exact h _ c i.me
    · have := nodup_le i.nd i.pt
      omega
/-! ### least, round by round -/
def stL (L : List Int) (r : Int × Int × Int) : List Int := (L.set r.1.toNat (min (at' L r.1) (at' L r.2.1))).set r.2.1.toNat (min (at' L r.1) (at' L r.2.1))
def rdL (rs : List (Int × Int × Int)) (L : List Int) : List Int := rs.foldl stL L
def itL (rs : List (Int × Int × Int)) : Nat → List Int → List Int
  | 0, L => L
  | n + 1, L => rdL rs (itL rs n L)
theorem at_stL {L : List Int} {r : Int × Int × Int} {p : Int} (l : (L.length : Int) = p) (z : 0 ≤ r.1 ∧ r.1 < r.2.1 ∧ r.2.1 < p) {x : Int} (h0 : 0 ≤ x) : at' (stL L r) x = if x = r.1 ∨ x = r.2.1 then min (at' L r.1) (at' L r.2.1) else at' L x := by
  unfold stL
  rw [at_set _ _ _ _ (by omega) (by rw [List.length_set]; omega) h0, at_set _ _ _ _ (by omega) (by omega) h0]
  by_cases a : x = r.1 <;> by_cases b : x = r.2.1 <;> simp [a, b]
structure LInv (p : Int) (rs : List (Int × Int × Int)) (L : List Int) : Prop where
  len : (L.length : Int) = p
  pt : ∀ x, 0 ≤ x → x < p → 0 ≤ at' L x ∧ at' L x ≤ x
  hg : ∀ x, 0 ≤ x → x < p → Hang rs x (at' L x)
theorem LInv.st {p : Int} {rs : List (Int × Int × Int)} {L : List Int} (i : LInv p rs L) (g : Pts p rs) {r : Int × Int × Int} (m : r ∈ rs) : LInv p rs (stL L r) := by
  have z := g r m
  have a := i.pt r.1 (by omega) (by omega)
  have b := i.pt r.2.1 (by omega) (by omega)
  refine ⟨by unfold stL; simp [i.len], fun x h0 h1 => ?_, fun x h0 h1 => ?_⟩
  · rw [at_stL i.len z h0]
    have := i.pt x h0 h1
    split
    · rename_i h
      rcases h with rfl | rfl <;> omega
    · exact this
  · rw [at_stL i.len z h0]
    split
    · rename_i h
      have ha := i.hg r.1 (by omega) (by omega)
      have hb := i.hg r.2.1 (by omega) (by omega)
      have hr := Hang.road m
      have t : Hang rs r.1 (min (at' L r.1) (at' L r.2.1)) := by
        by_cases w : at' L r.1 ≤ at' L r.2.1
        · rw [Int.min_eq_left w]; exact ha
        · rw [Int.min_eq_right (by omega)]; exact hr.trans hb
      rcases h with rfl | rfl
      · exact t
      · exact hr.symm.trans t
    · exact i.hg x h0 h1
theorem LInv.rd {p : Int} {rs : List (Int × Int × Int)} {L : List Int} (i : LInv p rs L) (g : Pts p rs) : LInv p rs (rdL rs L) := foldl_inv (LInv p rs) i fun b r m h => h.st g m
theorem LInv.it {p : Int} {rs : List (Int × Int × Int)} (g : Pts p rs) (p0 : 0 ≤ p) : ∀ n, LInv p rs (itL rs n (rgI 0 p))
  | 0 => by
    refine ⟨by simp [itL, rgI_len]; omega, fun x h0 h1 => ?_, fun x h0 h1 => ?_⟩
    · show 0 ≤ at' (rgI 0 p) x ∧ _
      simp only [itL]
      rw [at_rgI h0 (by omega)]
      omega
    · simp only [itL]
      rw [at_rgI h0 (by omega)]
      have : 0 + x = x := by omega
      rw [this]
      exact Hang.refl x
  | n + 1 => (LInv.it g p0 n).rd g
/-- the least point of all that hang together gets everywhere -/
theorem itL_min {p : Int} {rs : List (Int × Int × Int)} (g : Pts p rs) {m : Int} (h0 : 0 ≤ m) (h1 : m < p) (hm : ∀ y, Hang rs m y → 0 ≤ y → y < p → m ≤ y) : ∀ n, ∀ y ∈ itF rs n [m], at' (itL rs n (rgI 0 p)) y = m
  | 0, y, hy => by
    simp [itF] at hy
    subst hy
    simp only [itL]
    rw [at_rgI h0 (by omega)]
    omega
  | n + 1, y, hy => by
    have ih := itL_min g h0 h1 hm n
    have fi := FInv.it g h0 h1 n
    have li := LInv.it g (by omega) n
    have key : ∀ (qs : List (Int × Int × Int)), (∀ r ∈ qs, r ∈ rs) → ∀ (f L : List Int), FInv p rs m f → LInv p rs L → (∀ y ∈ f, at' L y = m) → ∀ y ∈ qs.foldl stF f, at' (qs.foldl stL L) y = m := by
      intro qs
      induction qs with
      | nil => intro _ f L _ _ h; exact h
      | cons q qs ih2 =>
        intro hq f L fi li h
        rw [List.foldl_cons, List.foldl_cons]
        have mq := hq q (List.mem_cons_self ..)
        refine ih2 (fun r mr => hq r (List.mem_cons_of_mem _ mr)) _ _ (fi.st g mq) (li.st g mq) fun y hy => ?_
        have z := g q mq
        have y0 : 0 ≤ y := ((fi.st g mq).pt y hy).1
        rw [at_stL li.len z y0]
        have low : ∀ x, 0 ≤ x → x < p → Hang rs m x → m ≤ at' L x := fun x x0 x1 hx => by
          have := li.pt x x0 x1
          exact hm _ (hx.trans (li.hg x x0 x1)) this.1 (by omega)
        rcases mem_stF.mp hy with hy' | ⟨ho, hf⟩
        · split
          · rename_i hc
            have hz := fi.hg y hy'
            have e := h y hy'
            rcases hc with rfl | rfl
            · have := low q.2.1 (by omega) (by omega) (hz.trans (Hang.road mq)); omega
            · have := low q.1 (by omega) (by omega) (hz.trans (Hang.road mq).symm); omega
          · exact h y hy'
        · rw [if_pos ho]
          rcases hf with hf | hf
          · have e := h _ hf
            have := low q.2.1 (by omega) (by omega) ((fi.hg _ hf).trans (Hang.road mq)); omega
          · have e := h _ hf
            have := low q.1 (by omega) (by omega) ((fi.hg _ hf).trans (Hang.road mq).symm); omega
    exact key rs (fun r m => m) _ _ fi li ih y hy
/-- the least point that hangs together with a point -/
def low (p : Int) (rs : List (Int × Int × Int)) (x : Int) : Int := at' (itL rs p.toNat (rgI 0 p)) x
theorem least_ex {P : Int → Prop} {x : Int} (x0 : 0 ≤ x) (hx : P x) : ∃ m, P m ∧ 0 ≤ m ∧ m ≤ x ∧ ∀ y, P y → 0 ≤ y → m ≤ y := by
  obtain ⟨n, hn⟩ : ∃ n : Nat, x = n := ⟨x.toNat, by omega⟩
  clear x0
  induction n using Nat.strongRecOn generalizing x with
  | ind n ih =>
    subst hn
    by_cases h : ∃ y, P y ∧ 0 ≤ y ∧ y < (n : Int)
    · obtain ⟨y, a, b, c⟩ := h
      obtain ⟨m, q1, q2, q3, q4⟩ := ih y.toNat (by omega) (x := y) a (by omega)
      exact ⟨m, q1, q2, by omega, q4⟩
    · refine ⟨n, hx, by omega, by omega, fun y a b => ?_⟩
      refine Classical.byContradiction fun w => h ⟨y, a, b, by omega⟩
theorem low_ok {p : Int} {rs : List (Int × Int × Int)} (g : Pts p rs) {x : Int} (h0 : 0 ≤ x) (h1 : x < p) : Hang rs x (low p rs x) ∧ 0 ≤ low p rs x ∧ low p rs x ≤ x ∧ ∀ y, Hang rs x y → 0 ≤ y → low p rs x ≤ y := by
  have li := LInv.it g (by omega) p.toNat
  refine ⟨li.hg x h0 h1, (li.pt x h0 h1).1, (li.pt x h0 h1).2, ?_⟩
  obtain ⟨m, a, b, c, d⟩ := least_ex (P := Hang rs x) h0 (Hang.refl x)
  have hm : ∀ y, Hang rs m y → 0 ≤ y → y < p → m ≤ y := fun y hy y0 _ => d y (a.trans hy) y0
  have e := itL_min g b (by omega) hm p.toNat x ((mem_itF g b (by omega)).mpr a.symm)
  show ∀ y, Hang rs x y → 0 ≤ y → at' (itL rs p.toNat (rgI 0 p)) x ≤ y
  rw [e]
  exact d
theorem low_eq {p : Int} {rs : List (Int × Int × Int)} (g : Pts p rs) {x y : Int} (h0 : 0 ≤ x) (h1 : x < p) (y0 : 0 ≤ y) (y1 : y < p) : low p rs x = low p rs y ↔ Hang rs x y := by
  obtain ⟨a, b, c, d⟩ := low_ok g h0 h1
  obtain ⟨a', b', c', d'⟩ := low_ok g y0 y1
  constructor
  · intro e
    rw [e] at a
    exact a.trans a'.symm
  · intro h
    have := d _ (h.trans a') b'
    have := d' _ (h.symm.trans a) b
    omega
theorem low_low {p : Int} {rs : List (Int × Int × Int)} (g : Pts p rs) {x : Int} (h0 : 0 ≤ x) (h1 : x < p) : low p rs (low p rs x) = low p rs x := by
  obtain ⟨a, b, c, d⟩ := low_ok g h0 h1
  exact (low_eq g b (by omega) h0 h1).mpr a.symm
end Rw
namespace Rw
theorem areLks_pts {p m : Int} {rs : List (Int × Int × Int)} (g : areLks p rs m = true) : Pts p rs := fun r hr => by have := isLk_lt (areLks_all g r hr); omega
theorem isNt_lks {p : Int} {rs : List (Int × Int × Int)} (g : isNt p rs = true) : areLks p rs 15 = true := by
  simp only [isNt, Bool.and_eq_true] at g
  exact g.2
theorem isNt_pts {p : Int} {rs : List (Int × Int × Int)} (g : isNt p rs = true) : Pts p rs := areLks_pts (isNt_lks g)
end Rw
end

section
set_option Elab.async false
set_option linter.all false
set_option maxRecDepth 100000
set_option maxHeartbeats 4000000
/-! RfB5: plain laws: odd points, parts, fences of the width 0. -/
namespace Rw
theorem satN_app (rs ws : List (Int × Int × Int)) (x : Int) : satN (rs ++ ws) x = satN rs x + satN ws x := by simp [satN]
theorem sum_sat {p : Int} : ∀ {rs : List (Int × Int × Int)}, Pts p rs → ((rgI 0 p).map (satN rs)).sum = 2 * (rs.map fun r => r.2.2).sum
  | [], _ => by
    have : ((rgI 0 p).map (satN [])) = (rgI 0 p).map fun _ => (0 : Int) := rfl
    rw [this]
    have z : ∀ l : List Int, (l.map fun _ => (0 : Int)).sum = 0 := fun l => by
      induction l with
      | nil => rfl
      | cons x l ih => rw [List.map_cons, List.sum_cons, ih]; rfl
    rw [z]
    rfl
  | r :: rs, g => by
    have ih := sum_sat (rs := rs) fun q m => g q (List.mem_cons_of_mem _ m)
    have z := g r (List.mem_cons_self ..)
    have e : (rgI 0 p).map (satN (r :: rs)) = (rgI 0 p).map fun x => (if x = r.1 ∨ x = r.2.1 then r.2.2 else 0) + satN rs x := List.map_congr_left fun x _ => satN_cons r rs x
    rw [e, sum_add, sum_ind r.1 r.2.1 r.2.2 (by omega) _ (rgI_pw 0 p), ih, if_pos (mem_rgI.mpr (by omega)), if_pos (mem_rgI.mpr (by omega)), List.map_cons, List.sum_cons]
    omega
/-- the odd points -/
def oddN (p : Int) (rs ws : List (Int × Int × Int)) : List Int := (rgI 0 p).filter fun x => decide ((satN rs x + satN ws x) % 2 = 1)
theorem cnt_mod (a : Int → Int) (t : Int → Bool) : ∀ (f : List Int), (∀ x ∈ f, t x = decide (a x % 2 = 1)) → ((f.map a).sum - ((f.filter t).length : Int)) % 2 = 0
  | [], _ => rfl
  | x :: f, h => by
    have ih := cnt_mod a t f fun y m => h y (List.mem_cons_of_mem _ m)
    have hx := h x (List.mem_cons_self ..)
    rw [List.map_cons, List.sum_cons, List.filter_cons]
    by_cases z : a x % 2 = 1
    · have : t x = true := by rw [hx]; simpa using z
      rw [if_pos this, List.length_cons]
      omega
    · have : ¬ t x = true := by rw [hx]; simpa using z
      rw [if_neg this]
      omega
theorem odd_even {p : Int} {rs ws : List (Int × Int × Int)} (g : Pts p rs) (gw : Pts p ws) : ((oddN p rs ws).length : Int) % 2 = 0 := by
  have a := cnt_mod (fun x => satN rs x + satN ws x) (fun x => decide ((satN rs x + satN ws x) % 2 = 1)) (rgI 0 p) (fun _ _ => rfl)
  rw [sum_add, sum_sat g, sum_sat gw] at a
  unfold oddN
  omega
theorem room_odd {p : Int} {rs ws : List (Int × Int × Int)} (g : Pts p rs) (gw : Pts p ws) {f : List Int} (hf : f ∈ fcs p) (p1 : 1 ≤ p) : (roomN rs ws f - ((f.filter fun x => decide (x ∈ oddN p rs ws)).length : Int)) % 2 = 0 := by
  obtain ⟨f1, f2, f3⟩ := (mem_fcs p1).mp hf
  have a := wid_sat f2 rs fun r m => by have := g r m; omega
  have b := wid_sat f2 ws fun r m => by have := gw r m; omega
  have c := cnt_mod (fun x => satN rs x + satN ws x) (fun x => decide (x ∈ oddN p rs ws)) f (fun x m => by
    have := f3 x m
    unfold oddN
    simp only [List.mem_filter, mem_rgI, decide_eq_true_eq]
    by_cases z : (satN rs x + satN ws x) % 2 = 1 <;> simp [z]
    omega)
  rw [sum_add] at c
  unfold roomN
  omega
/-! ### parts -/
def repN (p : Int) (rs : List (Int × Int × Int)) : List Int := (rgI 0 p).filter fun x => decide (low p rs x = x)
def prtN (p : Int) (rs : List (Int × Int × Int)) (x : Int) : List Int := (rgI 0 p).filter fun y => decide (low p rs y = x)
def ptsN (p : Int) (rs : List (Int × Int × Int)) : List (List Int) := (repN p rs).map (prtN p rs)
/-- of each part all or none -/
def whole (p : Int) (rs : List (Int × Int × Int)) (f : List Int) : Bool := (ptsN p rs).all fun P => decide (((P.filter fun x => decide (x ∈ f)).length : Int) = 0) || decide (((P.filter fun x => decide (x ∈ f)).length : Int) = (P.length : Int))
theorem filter_len {α : Type} {t : α → Bool} : ∀ {l : List α}, (l.filter t).length = l.length ↔ ∀ x ∈ l, t x = true
  | [] => by simp
  | x :: l => by
    have ih := filter_len (t := t) (l := l)
    have := List.length_filter_le t l
    rw [List.filter_cons, List.length_cons]
    cases h : t x
    · simp [h]; omega
    · simp only [if_true, List.length_cons, List.mem_cons, forall_eq_or_imp, h, true_and]
      rw [← ih]; omega
theorem whole_iff {p : Int} {rs : List (Int × Int × Int)} (g : Pts p rs) {f : List Int} : whole p rs f = true ↔ ∀ x y, 0 ≤ x → x < p → 0 ≤ y → y < p → low p rs x = low p rs y → (x ∈ f ↔ y ∈ f) := by
  simp only [whole, List.all_eq_true, Bool.or_eq_true, decide_eq_true_eq]
  constructor
  · intro h x y x0 x1 y0 y1 e
    have hr : prtN p rs (low p rs x) ∈ ptsN p rs := by
      refine List.mem_map_of_mem ?_
      simp only [repN, List.mem_filter, mem_rgI, decide_eq_true_eq]
      have := low_ok g x0 x1
      exact ⟨by omega, low_low g x0 x1⟩
    have mx : x ∈ prtN p rs (low p rs x) := by simp only [prtN, List.mem_filter, mem_rgI, decide_eq_true_eq]; exact ⟨⟨x0, x1⟩, trivial⟩
    have my : y ∈ prtN p rs (low p rs x) := by simp only [prtN, List.mem_filter, mem_rgI, decide_eq_true_eq]; exact ⟨⟨y0, y1⟩, e.symm⟩
    rcases h _ hr with q | q
    · have q : ((prtN p rs (low p rs x)).filter fun x => decide (x ∈ f)) = [] := List.length_eq_zero_iff.mp (by omega)
      rw [List.filter_eq_nil_iff] at q
      have a := q x mx
      have b := q y my
      simp only [decide_eq_true_eq] at a b
      exact iff_of_false a b
    · have q := filter_len.mp (show ((prtN p rs (low p rs x)).filter fun x => decide (x ∈ f)).length = _ by omega)
      have a := q x mx
      have b := q y my
      simp only [decide_eq_true_eq] at a b
      exact iff_of_true a b
  · intro h P hP
    obtain ⟨z, hz, rfl⟩ := List.mem_map.mp hP
    simp only [repN, List.mem_filter, mem_rgI, decide_eq_true_eq] at hz
    have all : ∀ x ∈ prtN p rs z, (x ∈ f ↔ z ∈ f) := fun x hx => by
      simp only [prtN, List.mem_filter, mem_rgI, decide_eq_true_eq] at hx
      exact h x z hx.1.1 hx.1.2 hz.1.1 hz.1.2 (by rw [hx.2, hz.2])
    by_cases w : z ∈ f
    · right
      have := filter_len.mpr fun x (hx : x ∈ prtN p rs z) => show decide (x ∈ f) = true by simpa using (all x hx).mpr w
      omega
    · left
      have : ((prtN p rs z).filter fun x => decide (x ∈ f)) = [] := by
        rw [List.filter_eq_nil_iff]
        intro x hx
        simpa using fun q => w ((all x hx).mp q)
      rw [this]
      rfl
theorem wid_0 : ∀ {rs : List (Int × Int × Int)}, (∀ r ∈ rs, 1 ≤ r.2.2) → ∀ {f : List Int}, wid rs f = 0 ↔ ∀ r ∈ rs, crs f r = false
  | [], _, f => by simp [wid]
  | r :: rs, h, f => by
    have ih := wid_0 (rs := rs) (fun q m => h q (List.mem_cons_of_mem _ m)) (f := f)
    have a := h r (List.mem_cons_self ..)
    have b := wid_nn (rs := rs) (fun q m => by have := h q (List.mem_cons_of_mem _ m); omega) f
    rw [wid_cons]
    cases z : crs f r
    · simp [z, ih]
    · simp [z]; omega
theorem crs_ff {f : List Int} {r : Int × Int × Int} : crs f r = false ↔ (r.1 ∈ f ↔ r.2.1 ∈ f) := by
  unfold crs
  by_cases a : r.1 ∈ f <;> by_cases b : r.2.1 ∈ f <;> simp [a, b]
theorem whole_wid {p : Int} {rs : List (Int × Int × Int)} (g : Pts p rs) (h1 : ∀ r ∈ rs, 1 ≤ r.2.2) {f : List Int} : whole p rs f = decide (wid rs f = 0) := by
  rw [Bool.eq_iff_iff, whole_iff g, decide_eq_true_eq, wid_0 h1]
  constructor
  · intro h r m
    have z := g r m
    exact crs_ff.mpr (h _ _ (by omega) (by omega) (by omega) (by omega) ((low_eq g (by omega) (by omega) (by omega) (by omega)).mpr (Hang.road m)))
  · intro h x y x0 x1 y0 y1 e
    have hg := (low_eq g x0 x1 y0 y1).mp e
    exact ⟨fun m => hg (· ∈ f) (fun r m => crs_ff.mp (h r m)) m, fun m => hg.symm (· ∈ f) (fun r m => crs_ff.mp (h r m)) m⟩
/-! ### their number -/
def subs : List Int → List (List Int)
  | [] => [[]]
  | x :: l => subs l ++ (subs l).map (x :: ·)
theorem subs_len : ∀ l : List Int, (subs l).length = 2 ^ l.length
  | [] => rfl
  | x :: l => by simp [subs, subs_len l, Nat.pow_succ]; omega
theorem subs_mem : ∀ {l : List Int} {f : List Int}, f ∈ subs l ↔ f.Sublist l
  | [], f => by simp [subs]
  | x :: l, f => by
    simp only [subs, List.mem_append, List.mem_map, subs_mem (l := l)]
    constructor
    · rintro (h | ⟨f', h, rfl⟩)
      · exact h.cons _
      · exact h.cons_cons _
    · intro h
      cases h with
      | cons _ h => exact .inl h
      | cons_cons _ h => exact .inr ⟨_, h, rfl⟩
theorem subs_nodup : ∀ {l : List Int}, l.Nodup → (subs l).Nodup
  | [], _ => by simp [subs]
  | x :: l, h => by
    obtain ⟨h1, h2⟩ := List.nodup_cons.mp h
    simp only [subs, List.nodup_append]
    refine ⟨subs_nodup h2, ?_, ?_⟩
    · exact List.Pairwise.map _ (fun a b n e => n (by simpa using e)) (subs_nodup h2)
    · intro a ha b hb e
      obtain ⟨f, -, rfl⟩ := List.mem_map.mp hb
      subst e
      exact h1 ((subs_mem.mp ha).subset (List.mem_cons_self ..))
theorem nd_eq {α : Type} [DecidableEq α] {f ys : List α} (h : f.Nodup) (h' : ys.Nodup) (s : ∀ y, y ∈ f ↔ y ∈ ys) : f.length = ys.length :=
  Nat.le_antisymm (nd_le h fun y m => (s y).mp m) (nd_le h' fun y m => (s y).mpr m)
theorem pw_nodup {f : List Int} (h : f.Pairwise (· < ·)) : f.Nodup := h.imp fun h => by omega
theorem fcsN_nodup : ∀ (n : Nat) (a : Int), (fcsN n a).Nodup := by
  intro n a
  have : ∀ x y : List Int, x ∈ fcsN n a → y ∈ fcsN n a → True := fun _ _ _ _ => trivial
  induction n generalizing a with
  | zero => simp [fcsN]
  | succ n ih =>
    have z : ∀ f ∈ fcsN n (a + 1), ∀ x ∈ f, a + 1 ≤ x := fun f hf x hx => (((fcsN_mem n (a + 1) f).mp hf).2.2 x hx).1
    have i1 := ih (a + 1) (fun _ _ _ _ => trivial)
    simp only [fcsN]
    simp only [List.nodup_cons, List.nodup_append, List.mem_append, List.mem_map]
    refine ⟨?_, ?_, i1, ?_⟩
    · rintro (⟨f, hf, e⟩ | h)
      · have : f = [] := by simpa using e
        exact ((fcsN_mem n (a + 1) f).mp hf).1 this
      · have := z _ h a (List.mem_cons_self ..); omega
    · exact List.Pairwise.map _ (fun a b n e => n (by simpa using e)) i1
    · rintro x ⟨f, hf, rfl⟩ y hy e
      subst e
      have := z _ hy a (List.mem_cons_self ..); omega
theorem fcs_nodup (p : Int) : (fcs p).Nodup := fcsN_nodup _ _
theorem rep_0 {p : Int} {rs : List (Int × Int × Int)} (g : Pts p rs) (p1 : 1 ≤ p) : ∃ R, repN p rs = 0 :: R ∧ ∀ x ∈ R, 1 ≤ x ∧ x < p ∧ low p rs x = x := by
  have e : rgI 0 p = 0 :: rgI 1 p := rgI_cons (by omega)
  have l0 : low p rs 0 = 0 := by have := low_ok g (x := 0) (by omega) (by omega); omega
  refine ⟨(rgI 1 p).filter fun x => decide (low p rs x = x), ?_, fun x hx => ?_⟩
  · unfold repN
    rw [e, List.filter_cons, if_pos (by simpa using l0)]
  · simp only [List.mem_filter, mem_rgI, decide_eq_true_eq] at hx
    omega
theorem whole_cnt {p : Int} {rs : List (Int × Int × Int)} (g : Pts p rs) (p1 : 1 ≤ p) : (((fcs p).filter (whole p rs)).length : Int) = 2 ^ ((ptsN p rs).length - 1) - 1 := by
  obtain ⟨R, eR, hR⟩ := rep_0 g p1
  have kl : (ptsN p rs).length - 1 = R.length := by simp [ptsN, eR]
  have pwR : (0 :: R).Pairwise (· < ·) := by rw [← eR]; exact (rgI_pw 0 p).filter _
  have pR := (List.pairwise_cons.mp pwR).2
  let ψ : List Int → List Int := fun J => fcOf p fun x => decide (low p rs x ∈ J)
  have back : ∀ J, J.Sublist R → ∀ x ∈ R, x ∈ ψ J ↔ x ∈ J := fun J s x hx => by
    have := hR x hx
    simp only [ψ, mem_fcOf, this.2.2, decide_eq_true_eq]
    exact ⟨fun h => h.2, fun h => ⟨⟨this.1, this.2.1⟩, h⟩⟩
  have inj : ∀ J J', J.Sublist R → J'.Sublist R → ψ J = ψ J' → J = J' := fun J J' s s' e =>
    pw_ext (pR.sublist s) (pR.sublist s') fun x => ⟨fun m => (back J' s' x (s.subset m)).mp (e ▸ (back J s x (s.subset m)).mpr m), fun m => (back J s x (s'.subset m)).mp (e ▸ (back J' s' x (s'.subset m)).mpr m)⟩
  have l0 : low p rs 0 = 0 := by have := low_ok g (x := 0) (by omega) (by omega); omega
  have len : ((subs R).map ψ).length = ([] :: (fcs p).filter (whole p rs)).length := by
    refine nd_eq ?_ ?_ fun f => ?_
    · refine List.Pairwise.map (R := fun a b => a ≠ b ∧ a.Sublist R ∧ b.Sublist R) ψ (fun a b n e => n.1 (inj a b n.2.1 n.2.2 e)) ?_
      have := subs_nodup (pw_nodup pR)
      exact List.Pairwise.imp_of_mem (fun ha hb n => ⟨n, subs_mem.mp ha, subs_mem.mp hb⟩) this
    · rw [List.nodup_cons]
      refine ⟨fun m => ((mem_fcs p1).mp (List.mem_filter.mp m).1).1 rfl, (fcs_nodup p).sublist List.filter_sublist⟩
    · rw [List.mem_map, List.mem_cons]
      constructor
      · rintro ⟨J, hJ, rfl⟩
        have s := subs_mem.mp hJ
        cases J with
        | nil => left; unfold ψ fcOf; simp
        | cons x J =>
          right
          have mx := s.subset (List.mem_cons_self (a := x) (l := J))
          have := hR x mx
          rw [List.mem_filter]
          refine ⟨fcOf_fcs p1 (x := x) this.1 this.2.1 (by simp [this.2.2]), (whole_iff g).mpr fun a b a0 a1 b0 b1 e => ?_⟩
          have z0 : (0 : Int) ∉ x :: J := fun m => by have := hR 0 (s.subset m); omega
          have nz : ∀ c, low p rs c ∈ x :: J → 0 ≤ c → 1 ≤ c := fun c m c0 => by
            by_cases w : c = 0
            · subst w; rw [l0] at m; exact (z0 m).elim
            · omega
          simp only [ψ, mem_fcOf, decide_eq_true_eq, e]
          constructor
          · intro h; exact ⟨⟨nz b h.2 b0, b1⟩, h.2⟩
          · intro h; exact ⟨⟨nz a (by rw [e]; exact h.2) a0, a1⟩, h.2⟩
      · rintro (rfl | h)
        · exact ⟨[], subs_mem.mpr (List.nil_sublist _), by unfold ψ fcOf; simp⟩
        · rw [List.mem_filter] at h
          obtain ⟨f1, f2, f3⟩ := (mem_fcs p1).mp h.1
          have hw := (whole_iff g).mp h.2
          refine ⟨R.filter fun x => decide (x ∈ f), subs_mem.mpr List.filter_sublist, ?_⟩
          refine pw_ext ((rgI_pw 1 p).filter _) f2 fun x => ?_
          simp only [ψ, mem_fcOf, decide_eq_true_eq, List.mem_filter]
          constructor
          · rintro ⟨⟨x1, xp⟩, -, m⟩
            have lo := low_ok g (x := x) (by omega) xp
            exact (hw x (low p rs x) (by omega) xp lo.2.1 (by omega) (low_low g (by omega) xp).symm).mpr m
          · intro m
            have := f3 x m
            have lo := low_ok g (x := x) (by omega) this.2
            have ml := (hw x (low p rs x) (by omega) this.2 lo.2.1 (by omega) (low_low g (by omega) this.2).symm).mp m
            have l1 := f3 _ ml
            have : low p rs x ∈ repN p rs := by
              simp only [repN, List.mem_filter, mem_rgI, decide_eq_true_eq]
              exact ⟨by omega, low_low g (by omega) (by omega)⟩
            rw [eR, List.mem_cons] at this
            refine ⟨by omega, ?_, ml⟩
            rcases this with e | e
            · omega
            · exact e
  rw [List.length_map, subs_len, List.length_cons] at len
  rw [kl]
  have e : ((2 ^ R.length : Nat) : Int) = (2 : Int) ^ R.length := Int.natCast_pow 2 R.length
  rw [← e, len]
  omega
/-- a wish between two parts crosses some fence of the width 0, another one none -/
theorem apart_iff {p : Int} {rs : List (Int × Int × Int)} (g : Pts p rs) {a b : Int} (a0 : 0 ≤ a) (ab : a < b) (b1 : b < p) : (∃ f ∈ (fcs p).filter (whole p rs), crP f (a, b) = true) ↔ low p rs a ≠ low p rs b := by
  constructor
  · rintro ⟨f, hf, c⟩ e
    rw [List.mem_filter] at hf
    have := (whole_iff g).mp hf.2 a b a0 (by omega) (by omega) b1 e
    have c2 : crP f (a, b) = false := (crs_ff (r := (a, b, 0))).mpr this
    rw [c2] at c
    cases c
  · intro ne
    have l0 : low p rs 0 = 0 := by have := low_ok g (x := 0) (by omega) (by omega); omega
    obtain ⟨c, hc, c1, c2, c3⟩ : ∃ c, (c = a ∨ c = b) ∧ low p rs c ≠ 0 ∧ 0 ≤ c ∧ c < p := by
      by_cases z : low p rs a = 0
      · exact ⟨b, .inr rfl, fun e => ne (by rw [z, e]), by omega, b1⟩
      · exact ⟨a, .inl rfl, z, a0, by omega⟩
    have t0 : (fun x => decide (low p rs x = low p rs c)) 0 = false := by simp [l0]; exact fun e => c1 e.symm
    refine ⟨fcOf p fun x => decide (low p rs x = low p rs c), List.mem_filter.mpr ⟨fcOf_fcs (by omega) (x := c) ?_ c3 (by simp), (whole_iff g).mpr fun x y x0 x1 y0 y1 e => ?_⟩, ?_⟩
    · by_cases w : c = 0
      · subst w; exact (c1 l0).elim
      · omega
    · have nz : ∀ z, low p rs z = low p rs c → 0 ≤ z → 1 ≤ z := fun z m z0 => by
        by_cases w : z = 0
        · subst w; rw [l0] at m; exact (c1 m.symm).elim
        · omega
      simp only [mem_fcOf, decide_eq_true_eq, e]
      constructor
      · intro h; exact ⟨⟨nz y h.2 y0, y1⟩, h.2⟩
      · intro h; exact ⟨⟨nz x (by rw [e]; exact h.2) x0, x1⟩, h.2⟩
    · rw [crP_fcOf t0 ⟨a0, ab, b1⟩]
      rcases hc with rfl | rfl
      · have : ¬ low p rs b = low p rs c := fun e => ne e.symm
        simp [this]
      · simp [ne]
end Rw
namespace Rw
theorem pw_head {l : List Int} {m : Int} (h : l.Pairwise (· < ·)) (hm : m ∈ l) (hl : ∀ y ∈ l, m ≤ y) : at' l 0 = m ∧ 0 < l.length := by
  cases l with
  | nil => cases hm
  | cons x l =>
    refine ⟨?_, by simp⟩
    show x = m
    have a := hl x (List.mem_cons_self ..)
    rcases List.mem_cons.mp hm with e | m'
    · exact e.symm
    · have := (List.pairwise_cons.mp h).1 m m'; omega
theorem prt_head {p : Int} {rs : List (Int × Int × Int)} (g : Pts p rs) {x : Int} (h0 : 0 ≤ x) (h1 : x < p) : at' (prtN p rs (low p rs x)) 0 = low p rs x ∧ 0 < (prtN p rs (low p rs x)).length := by
  have lo := low_ok g h0 h1
  refine pw_head ((rgI_pw 0 p).filter _) ?_ fun y hy => ?_
  · simp only [prtN, List.mem_filter, mem_rgI, decide_eq_true_eq]
    exact ⟨by omega, low_low g h0 h1⟩
  · simp only [prtN, List.mem_filter, mem_rgI, decide_eq_true_eq] at hy
    have := low_ok g hy.1.1 hy.1.2
    omega
theorem enL_rg (f : Int → D) (b : Int) : ∀ (m n : Nat), (b - n).toNat = m → enL ((rgI n b).map f) n = (rgI n b).map fun x => .tup [.int x, f x]
  | 0, n, e => by rw [rgI_nil (by omega)]; rfl
  | m + 1, n, e => by
    have := enL_rg f b m (n + 1) (by omega)
    rw [rgI_cons (by omega), List.map_cons, List.map_cons]
    show D.tup [.int (n : Int), f n] :: enL _ (n + 1) = _
    rw [show ((n : Int) + 1) = ((n + 1 : Nat) : Int) by omega, this]
theorem enL_rg0 (f : Int → D) (b : Int) : enL ((rgI 0 b).map f) 0 = (rgI 0 b).map fun x => .tup [.int x, f x] := enL_rg f b _ 0 rfl
theorem ix_tI {h : AH} {f : List Int} {i : Int} (h0 : 0 ≤ i) (h1 : i < f.length) : ixEv h (tint f) (.int i) = some (.int (at' f i), false) := ix_tm h0 h1
theorem pts_eq (p : Int) (rs : List (Int × Int × Int)) : ((rgI 0 p).filter fun x => decide (low p rs x = x)).map (fun x => tint (prtN p rs (low p rs x))) = (ptsN p rs).map tint := by
  unfold ptsN repN
  rw [List.map_map]
  apply List.map_congr_left
  intro x hx
  have := (List.mem_filter.mp hx).2
  simp only [decide_eq_true_eq] at this
  show tint (prtN p rs (low p rs x)) = tint (prtN p rs x)
  rw [this]
theorem topL_map {α : Type} (f : α → D) (h : ∀ a, (f a).top = 0) : ∀ xs : List α, topL (xs.map f) = 0
  | [] => rfl
  | x :: xs => by
    rw [List.map_cons]
    show max (f x).top (topL (xs.map f)) = 0
    rw [h, topL_map f h xs]
    rfl
end Rw
namespace Rw
theorem pts_rows {p : Int} {rs : List (Int × Int × Int)} (g : Pts p rs) : ((rgI 0 p).map (prtN p rs)).filter (fun f => !f.isEmpty) = ptsN p rs := by
  unfold ptsN repN
  rw [List.filter_map]
  congr 1
  apply List.filter_congr
  intro x hx
  obtain ⟨x0, x1⟩ := mem_rgI.mp hx
  show (!(prtN p rs x).isEmpty) = decide (low p rs x = x)
  by_cases z : low p rs x = x
  · have m : x ∈ prtN p rs x := by simp only [prtN, List.mem_filter, mem_rgI, decide_eq_true_eq]; exact ⟨⟨x0, x1⟩, z⟩
    cases e : prtN p rs x with
    | nil => rw [e] at m; cases m
    | cons => simp [z]
  · have : prtN p rs x = [] := by
      unfold prtN
      rw [List.filter_eq_nil_iff]
      intro y hy
      obtain ⟨y0, y1⟩ := mem_rgI.mp hy
      simp only [decide_eq_true_eq]
      intro e
      have := low_low g y0 y1
      rw [e] at this
      exact z this
    simp [this, z]
end Rw
namespace Rw
theorem rep_rows {p : Int} {rs : List (Int × Int × Int)} (g : Pts p rs) : ((rgI 0 p).filter fun a => !decide (prtN p rs a = [])) = repN p rs := by
  unfold repN
  apply List.filter_congr
  intro x hx
  obtain ⟨x0, x1⟩ := mem_rgI.mp hx
  by_cases z : low p rs x = x
  · have m : x ∈ prtN p rs x := by simp only [prtN, List.mem_filter, mem_rgI, decide_eq_true_eq]; exact ⟨⟨x0, x1⟩, z⟩
    have : prtN p rs x ≠ [] := List.ne_nil_of_mem m
    simp [this, z]
  · have : prtN p rs x = [] := by
      unfold prtN
      rw [List.filter_eq_nil_iff]
      intro y hy
      obtain ⟨y0, y1⟩ := mem_rgI.mp hy
      simp only [decide_eq_true_eq]
      intro e
      have := low_low g y0 y1
      rw [e] at this
      exact z this
    simp [this, z]
end Rw
end

section
set_option Elab.async false
set_option linter.all false
set_option maxRecDepth 100000
set_option maxHeartbeats 4000000
/-! RfJ: values of any kind, judged. -/
namespace Rw
def wholeB (lo hi : Int) : D → Bool
  | .int i => decide (lo ≤ i) && decide (i ≤ hi)
  | _ => false
def isI : D → Bool
  | .int _ => true
  | _ => false
def ltD : D → D → Bool
  | .int a, .int b => decide (a < b)
  | _, _ => false
def linkB (p : Int) : D → Bool
  | .tup [a, b, c] => wholeB 1 6 c && wholeB 0 (p - 1) a && wholeB 0 (p - 1) b && ltD a b
  | _ => false
theorem linkB_rd (p : Int) (r : Int × Int × Int) : linkB p (rd r) = isLk p r := by
  simp only [linkB, wholeB, ltD, isLk]
  simp only [Bool.and_assoc]
theorem linkB_of {p : Int} {d : D} (h : linkB p d = true) : ∃ r, d = rd r ∧ isLk p r = true := by
  unfold linkB at h
  split at h
  · rename_i a b c
    simp only [Bool.and_eq_true] at h
    obtain ⟨⟨⟨h1, h2⟩, h3⟩, h4⟩ := h
    cases a <;> simp only [wholeB] at h2 <;> try cases h2
    cases b <;> simp only [wholeB] at h3 <;> try cases h3
    cases c <;> simp only [wholeB] at h1 <;> try cases h1
    rename_i a b c
    refine ⟨(a, b, c), rfl, ?_⟩
    rw [← linkB_rd]
    simp only [linkB, wholeB, ltD, Bool.and_eq_true]
    simp only [Bool.and_eq_true] at h1 h2 h3
    exact ⟨⟨⟨h1, h2⟩, h3⟩, h4⟩
  · cases h
theorem all_linkB {p : Int} : ∀ {xs : List D}, xs.all (linkB p) = true → ∃ rs : List (Int × Int × Int), xs = rs.map rd ∧ rs.all (isLk p) = true
  | [], _ => ⟨[], rfl, rfl⟩
  | x :: xs, h => by
    simp only [List.all_cons, Bool.and_eq_true] at h
    obtain ⟨r, rfl, hr⟩ := linkB_of h.1
    obtain ⟨rs, rfl, hrs⟩ := all_linkB h.2
    exact ⟨r :: rs, rfl, by simp only [List.all_cons, hr, hrs, Bool.and_self]⟩
def toR : D → Int × Int × Int
  | .tup [.int a, .int b, .int c] => (a, b, c)
  | _ => (0, 0, 0)
theorem toR_map : ∀ rs : List (Int × Int × Int), (rs.map rd).map toR = rs
  | [] => rfl
  | r :: rs => by rw [List.map_cons, List.map_cons, toR_map rs]; rfl
/-- links, of any value -/
def linksB (p m : Int) : D → Bool
  | .tup xs => xs.all (linkB p) && areLks p (xs.map toR) m
  | _ => false
theorem linksB_rds (p m : Int) (rs : List (Int × Int × Int)) : linksB p m (rds rs) = areLks p rs m := by
  show ((rs.map rd).all (linkB p) && areLks p ((rs.map rd).map toR) m) = _
  rw [toR_map, List.all_map]
  have : (linkB p ∘ rd) = isLk p := funext fun r => linkB_rd p r
  rw [this]
  unfold areLks
  cases rs.all (isLk p) <;> simp
def netB : D → Bool
  | .tup [.int p, v] => decide (2 ≤ p) && decide (p ≤ 7) && linksB p 15 v
  | _ => false
theorem all_isI : ∀ {xs : List D}, xs.all isI = true → ∃ f : List Int, xs = f.map .int
  | [], _ => ⟨[], rfl⟩
  | x :: xs, h => by
    simp only [List.all_cons, Bool.and_eq_true] at h
    cases x <;> try (cases h.1; done)
    rename_i i
    obtain ⟨f, rfl⟩ := all_isI h.2
    exact ⟨i :: f, rfl⟩
def toI : D → Int
  | .int i => i
  | _ => 0
theorem toI_map : ∀ f : List Int, (f.map D.int).map toI = f
  | [] => rfl
  | x :: f => by rw [List.map_cons, List.map_cons, toI_map f]; rfl
def sideB (p : Int) : D → Bool
  | .tup xs => xs.all isI && isSd p (xs.map toI)
  | _ => false
theorem sideB_t (p : Int) (f : List Int) : sideB p (tint f) = isSd p f := by
  show ((f.map D.int).all isI && isSd p ((f.map D.int).map toI)) = _
  rw [toI_map, List.all_map]
  have : (isI ∘ D.int) = fun _ => true := rfl
  rw [this]
  simp
def fncB (p : Int) (d : D) : Bool := sideB p d && (match d with | .tup (.int 0 :: _) => false | _ => true)
/-! ### in order -/
def ltP (x y : Int × Int) : Bool := decide (x.1 < y.1) || (x.1 == y.1 && decide (x.2 < y.2))
theorem ltP_ok : LtOk ltP := by
  refine ⟨fun a => by simp [ltP], fun a b c => ?_, fun a b h => ?_⟩
  · simp only [ltP, Bool.or_eq_true, Bool.and_eq_true, decide_eq_true_eq, beq_iff_eq]
    omega
  · simp only [ltP, Bool.or_eq_true, Bool.and_eq_true, decide_eq_true_eq, beq_iff_eq]
    have : ¬ (a.1 = b.1 ∧ a.2 = b.2) := fun z => h (Prod.ext z.1 z.2)
    omega
theorem dlt_prD (a b : Int × Int) : dlt (prD a) (prD b) = ltP a b := by
  show (if (a.1 == b.1) = true then (if (a.2 == b.2) = true then false else decide (a.2 < b.2)) else decide (a.1 < b.1)) = _
  unfold ltP
  by_cases h : a.1 = b.1
  · by_cases h2 : a.2 = b.2
    · simp [h, h2]
    · simp [h, h2]
  · simp [h]
theorem sortable_prD (qs : List (Int × Int)) : sortable (qs.map prD) = true := by
  simp [sortable, tys, Ty.has]
theorem bi_sortP (h : AH) {xs : List (Int × Int)} (hl : xs.length ≤ LN) : biEv .sorted h [.lst (xs.map prD)] = some (.lst ((srtB ltP xs).map prD), true) := by
  have l : decide ((xs.map prD).length ≤ LN) = true := by simpa using hl
  have e : dsort (xs.map prD) = (srtB ltP xs).map prD := dsort_map fun a _ b _ => dlt_prD a b
  simp only [biEv, stems, litems, Option.bind_some, sortable_prD, l, Bool.and_self, if_true, e]
theorem deq_prD (a b : Int × Int) : deq (prD a) (prD b) = decide (a = b) := by
  show (a.1 == b.1 && (a.2 == b.2 && true)) = _
  by_cases h : a = b
  · subst h; simp
  · have : ¬ (a.1 = b.1 ∧ a.2 = b.2) := fun z => h (Prod.ext z.1 z.2)
    by_cases h1 : a.1 = b.1
    · have h2 : ¬ a.2 = b.2 := fun z => this ⟨h1, z⟩
      simp [h, h1, h2]
    · simp [h, h1]
theorem deqL_prD : ∀ (f g : List (Int × Int)), deqL (f.map prD) (g.map prD) = decide (f = g)
  | [], [] => rfl
  | [], _ :: _ => rfl
  | _ :: _, [] => rfl
  | x :: f, y :: g => by
    show (deq (prD x) (prD y) && deqL (f.map prD) (g.map prD)) = _
    rw [deqL_prD f g, deq_prD]
    by_cases a : x = y <;> by_cases b : f = g <;> simp [a, b]
theorem plain_prs (qs : List (Int × Int)) : (D.lst (qs.map prD)).plain = true := by
  show (qs.map prD).all (plK 11) = true
  rw [List.all_map]
  simp [List.all_eq_true, plK]
theorem cmp_eqP (h : AH) (f g : List (Int × Int)) : cmpEv .eq h (.lst (f.map prD)) (.lst (g.map prD)) = some (decide (f = g)) := by
  have e : ∀ f : List (Int × Int), res h (.lst (f.map prD)) = .lst (f.map prD) := fun _ => rfl
  show (if (res h (.lst (f.map prD))).plain && (res h (.lst (g.map prD))).plain then some (deq (res h (.lst (f.map prD))) (res h (.lst (g.map prD)))) else none) = _
  rw [e, e, plain_prs, plain_prs]
  show some (deqL (f.map prD) (g.map prD)) = _
  rw [deqL_prD]
theorem any_prD (x : Int × Int) : ∀ fs : List (Int × Int), ((fs.map prD).any fun z => deq z (prD x)) = decide (x ∈ fs)
  | [] => by simp
  | y :: fs => by
    rw [List.map_cons, List.any_cons, any_prD x fs, deq_prD]
    by_cases e : y = x
    · subst e; simp
    · have e' : ¬ x = y := fun z => e z.symm
      simp [e, e']
theorem in_prL (h : AH) (x : Int × Int) (fs : List (Int × Int)) : inEv h (prD x) (.lst (fs.map prD)) = some (decide (x ∈ fs)) := by
  have p1 : (prD x).plain = true := by simp [D.plain, plK]
  have p2 : plainL (fs.map prD) = true := plain_prs fs
  show (if (prD x).plain && plainL (fs.map prD) then some ((fs.map prD).any fun z => deq z (prD x)) else none) = _
  rw [p1, p2, any_prD]
  rfl
theorem nodup_any {α : Type} [DecidableEq α] [Inhabited α] (qs : List α) : ((rgI 0 qs.length).any fun i => decide (at' qs i ∈ qs.take i.toNat)) = !decide qs.Nodup := by
  rw [Bool.eq_iff_iff, List.any_eq_true]
  simp only [decide_eq_true_eq, Bool.not_eq_true', decide_eq_false_iff_not]
  constructor
  · rintro ⟨i, hi, m⟩ nd
    obtain ⟨h0, h1⟩ := mem_rgI.mp hi
    have z : i.toNat < qs.length := by omega
    have e : at' qs i = qs[i.toNat] := by simp [at', List.getD, z]
    rw [e] at m
    obtain ⟨j, hj, ej⟩ := List.getElem_of_mem m
    rw [List.length_take] at hj
    rw [List.getElem_take] at ej
    have := List.pairwise_iff_getElem.mp nd j i.toNat (by omega) z (by omega)
    exact this ej
  · intro h
    refine Classical.byContradiction fun n => h ?_
    show qs.Pairwise (· ≠ ·)
    rw [List.pairwise_iff_getElem]
    intro i j hi hj hij e
    refine n ⟨j, mem_rgI.mpr (by omega), ?_⟩
    have ej : at' qs (j : Int) = qs[j] := by simp [at', List.getD, hj]
    rw [ej, ← e, Int.toNat_natCast]
    exact List.mem_iff_getElem.mpr ⟨i, by rw [List.length_take]; omega, by rw [List.getElem_take]⟩
/-- in order, and none twice: ascending -/
theorem sorted_pw (qs : List (Int × Int)) : (decide (qs = srtB ltP qs) && decide qs.Nodup) = decide (qs.Pairwise fun a b => ltP a b = true) := by
  rw [Bool.eq_iff_iff, Bool.and_eq_true]
  simp only [decide_eq_true_eq]
  constructor
  · rintro ⟨a, b⟩
    rw [a]
    exact srtB_pw ltP_ok b
  · intro h
    have nd : qs.Nodup := h.imp fun {a b} c e => by subst e; rw [ltP_ok.irr] at c; cases c
    exact ⟨(srtB_eq ltP_ok nd h fun x => Iff.rfl).symm, nd⟩
theorem areLks_law (p m : Int) (rs : List (Int × Int × Int)) : areLks p rs m = (decide ((rs.length : Int) ≤ m) && rs.all (isLk p) && (decide (rs.map (fun r => (r.1, r.2.1)) = srtB ltP (rs.map fun r => (r.1, r.2.1))) && decide (rs.map fun r => (r.1, r.2.1)).Nodup)) := by
  rw [sorted_pw, Bool.eq_iff_iff, areLks_iff]
  simp only [Bool.and_eq_true, decide_eq_true_eq, List.all_eq_true, List.pairwise_map]
  constructor
  · rintro ⟨a, b, c⟩
    exact ⟨⟨a, b⟩, c⟩
  · rintro ⟨⟨a, b⟩, c⟩
    exact ⟨a, b, c⟩
theorem fn_law {p : Int} {f : List Int} : (decide (f ≠ []) && decide (f = (rgI 1 p).filter fun x => decide (x ∈ f))) = isFn p f := by
  rw [Bool.eq_iff_iff]
  simp only [Bool.and_eq_true, decide_eq_true_eq, ne_eq]
  constructor
  · rintro ⟨a, b⟩
    have pw : f.Pairwise (· < ·) := by rw [b]; exact (rgI_pw 1 p).filter _
    have mem : ∀ x ∈ f, 1 ≤ x ∧ x < p := fun x hx => by
      rw [b, List.mem_filter, mem_rgI] at hx
      exact hx.1
    have l0 : 0 < f.length := List.length_pos_iff.mpr a
    have p1 : 1 ≤ p := by have := mem _ (at_mem (xs := f) (i := 0) (by omega) (by omega)); omega
    exact fcs_fn ((mem_fcs p1).mpr ⟨a, pw, mem⟩)
  · intro h
    have hs := isFn_sd h
    obtain ⟨s1, s2, s3⟩ := hs
    simp only [isSd, Bool.and_eq_true, decide_eq_true_eq, List.all_eq_true] at s1
    obtain ⟨⟨⟨l0, l1⟩, al⟩, asc⟩ := s1
    have pw : f.Pairwise (· < ·) := steps_pw (P := (· < ·)) (fun _ _ _ => Int.lt_trans) fun i h0 h1 => asc i (mem_rgI.mpr ⟨h0, by omega⟩)
    refine ⟨fun e => by rw [e] at l0; simp at l0, pw_ext pw ((rgI_pw 1 p).filter _) fun x => ?_⟩
    rw [List.mem_filter, mem_rgI, decide_eq_true_eq]
    constructor
    · intro m
      have a := al x m
      refine ⟨⟨?_, by omega⟩, m⟩
      have h0 : at' f 0 ≠ 0 := by simpa using s2
      have h00 := al _ (at_mem (xs := f) (i := 0) (by omega) (by omega))
      cases f with
      | nil => cases m
      | cons y f =>
        have e : at' (y :: f) 0 = y := rfl
        rw [e] at h0 h00
        rcases List.mem_cons.mp m with rfl | m
        · omega
        · have := (List.pairwise_cons.mp pw).1 x m; omega
    · exact fun h => h.2
end Rw
namespace Rw
theorem plK_up : ∀ (k : Nat) (d : D), plK k d = true → plK (k + 1) d = true
  | 0, d, h => by cases d <;> simp_all [plK]
  | k + 1, d, h => by
    cases d with
    | tup xs =>
      have : xs.all (plK k) = true := h
      show xs.all (plK (k + 1)) = true
      rw [List.all_eq_true] at *
      exact fun x m => plK_up k x (this x m)
    | lst xs =>
      have : xs.all (plK k) = true := h
      show xs.all (plK (k + 1)) = true
      rw [List.all_eq_true] at *
      exact fun x m => plK_up k x (this x m)
    | _ => simp_all [plK]
end Rw
namespace Rw
theorem nodup_anyP (qs : List (Int × Int)) : ((rgI 0 qs.length).any fun i => decide (at' qs i ∈ qs.take i.toNat)) = !decide qs.Nodup := by
  have := nodup_any qs
  rw [Bool.eq_iff_iff] at *
  simp only [List.any_eq_true, decide_eq_true_eq] at *
  exact this
end Rw
namespace Rw
mutual
theorem plain_top : ∀ (k : Nat) (d : D), plK k d = true → d.top = 0
  | k, .non, _ => rfl
  | k, .bl _, _ => rfl
  | k, .int _, _ => rfl
  | k, .str _, _ => rfl
  | 0, .tup _, h => by cases h
  | 0, .lst _, h => by cases h
  | k + 1, .tup xs, h => plain_topL k xs h
  | k + 1, .lst xs, h => plain_topL k xs h
  | 0, .dT _, h => by cases h
  | k + 1, .dT _, h => by cases h
  | 0, .dI _, h => by cases h
  | k + 1, .dI _, h => by cases h
  | 0, .ref _, h => by cases h
  | k + 1, .ref _, h => by cases h
  | 0, .scr _, h => by cases h
  | k + 1, .scr _, h => by cases h
  | 0, .ktp _, h => by cases h
  | k + 1, .ktp _, h => by cases h
  | 0, .exc _ _, h => by cases h
  | k + 1, .exc _ _, h => by cases h
theorem plain_topL : ∀ (k : Nat) (xs : List D), xs.all (plK k) = true → topL xs = 0
  | k, [], _ => rfl
  | k, x :: xs, h => by
    simp only [List.all_cons, Bool.and_eq_true] at h
    show max x.top (topL xs) = 0
    rw [plain_top k x h.1, plain_topL k xs h.2]
    rfl
end
theorem addR {h : AH} {n : Nat} {xs ys : List D} (e : h.os[n]? = some (.lst xs)) (hl : xs.length + ys.length ≤ LN) : binEv .add h (.ref n) (.lst ys) = some (.lst (xs ++ ys), true) := by
  simp only [binEv, res, e, if_pos hl]
theorem addT (h : AH) {a b : List D} (ha : a.length ≤ 1000) (hb : b.length ≤ 1000) : binEv .add h (.tup a) (.tup b) = some (.tup (a ++ b), false) := by
  have : a.length + b.length ≤ LN := by show _ ≤ 1000000; omega
  simp only [binEv, if_pos this]
theorem addLL (h : AH) {a b : List D} (ha : a.length ≤ 1000) (hb : b.length ≤ 1000) : binEv .add h (.lst a) (.lst b) = some (.lst (a ++ b), true) := by
  have : a.length + b.length ≤ LN := by show _ ≤ 1000000; omega
  simp only [binEv, res, if_pos this]
/-- a value that may be judged -/
structure PV (v : D) : Prop where
  pl : plK 11 v = true
  ln : ∀ xs, v = .tup xs → xs.length ≤ 1000
theorem PV.pl' {v : D} (h : PV v) : v.plain = true := plK_up 11 v h.pl
theorem PV.tp {v : D} (h : PV v) : v.top = 0 := plain_top _ _ h.pl
theorem rd_pl (k : Nat) (r : Int × Int × Int) : plK (k + 1) (rd r) = true := by simp [plK]
theorem pv_tup {xs : List D} (h : ∀ x ∈ xs, plK 10 x = true) (l : xs.length ≤ 1000) : PV (.tup xs) := by
  refine ⟨?_, fun ys e => ?_⟩
  · show xs.all (plK 10) = true
    rw [List.all_eq_true]
    exact h
  · cases e; exact l
theorem pv_lst {xs : List D} (h : ∀ x ∈ xs, plK 10 x = true) : PV (.lst xs) := by
  refine ⟨?_, fun ys e => by cases e⟩
  show xs.all (plK 10) = true
  rw [List.all_eq_true]
  exact h
theorem pv_0 {v : D} (h : plK 0 v = true) : PV v := by
  cases v <;> first
    | exact ⟨rfl, fun _ e => by cases e⟩
    | cases h
theorem plK_0 (k : Nat) {v : D} (h : plK 0 v = true) : plK k v = true := by
  cases v <;> first
    | (cases k <;> rfl)
    | cases h
end Rw
end

section
set_option Elab.async false
set_option linter.all false
set_option maxRecDepth 100000
set_option maxHeartbeats 4000000
/-! RfB6: loops that append; greatest numbers; amounts of two pairs. -/
namespace Rw
/-- a loop whose turns append to two lists -/
theorem for_app2 {asg : D → Env → AH → R Env} {body : Env → AH → O} (P : Env → Prop) (H : List D → List D → AH) (gf gg : D → List D) (M : Nat) : ∀ (xs : List D),
    (∀ x ∈ xs, ∀ env F G, P env → F.length ≤ M → G.length ≤ M → ∃ e1, asg x env (H F G) = .ok e1 (H F G) ∧ Nx (body e1 (H F G)) (fun env' h' => P env' ∧ h' = H (F ++ gf x) (G ++ gg x))) →
    ∀ env F G, P env → (F ++ xs.flatMap gf).length ≤ M → (G ++ xs.flatMap gg).length ≤ M → Nx (forEv asg body xs env (H F G)) (fun env' h' => P env' ∧ h' = H (F ++ xs.flatMap gf) (G ++ xs.flatMap gg))
  | [], _, env, F, G, p, _, _ => by
    show P env ∧ H F G = _
    simp [p]
  | x :: xs, st, env, F, G, p, l1, l2 => by
    rw [List.flatMap_cons, ← List.append_assoc] at l1 l2
    have a1 : F.length ≤ M := by simp only [List.length_append] at l1; omega
    have a2 : G.length ≤ M := by simp only [List.length_append] at l2; omega
    obtain ⟨e1, a, b⟩ := st x (List.mem_cons_self ..) env F G p a1 a2
    obtain ⟨e2, h2, q, p2, rfl⟩ := b.out
    have ih := for_app2 P H gf gg M xs (fun y m => st y (List.mem_cons_of_mem _ m)) e2 (F ++ gf x) (G ++ gg x) p2 l1 l2
    rw [for_cons', a, o_ok, q, l_nx, List.flatMap_cons, List.flatMap_cons, ← List.append_assoc, ← List.append_assoc]
    exact ih
/-! ### the greatest of some numbers -/
def maxF (x : Int) (xs : List Int) : Int := xs.foldl (fun a y => if a < y then y else a) x
def maxI : List Int → Int
  | [] => 0
  | x :: xs => maxF x xs
theorem maxF_ge : ∀ (xs : List Int) (x : Int), x ≤ maxF x xs ∧ ∀ y ∈ xs, y ≤ maxF x xs
  | [], x => ⟨Int.le_refl _, by simp⟩
  | y :: xs, x => by
    show x ≤ maxF (if x < y then y else x) xs ∧ _
    obtain ⟨a, b⟩ := maxF_ge xs (if x < y then y else x)
    have t : x ≤ (if x < y then y else x) ∧ y ≤ (if x < y then y else x) := by split <;> omega
    refine ⟨Int.le_trans t.1 a, fun z hz => ?_⟩
    rcases List.mem_cons.mp hz with rfl | hz
    · exact Int.le_trans t.2 a
    · exact b z hz
theorem maxF_mem : ∀ (xs : List Int) (x : Int), maxF x xs = x ∨ maxF x xs ∈ xs
  | [], x => .inl rfl
  | y :: xs, x => by
    show maxF (if x < y then y else x) xs = x ∨ maxF (if x < y then y else x) xs ∈ y :: xs
    rcases maxF_mem xs (if x < y then y else x) with e | e
    · rw [e]
      split
      · exact .inr (List.mem_cons_self ..)
      · exact .inl rfl
    · exact .inr (List.mem_cons_of_mem _ e)
theorem maxI_eq {xs : List Int} {m : Int} (h : m ∈ xs) (l : ∀ y ∈ xs, y ≤ m) : maxI xs = m := by
  cases xs with
  | nil => cases h
  | cons x xs =>
    have a := maxF_ge xs x
    have b : maxF x xs ∈ x :: xs := by
      rcases maxF_mem xs x with e | e
      · rw [e]; exact List.mem_cons_self ..
      · exact List.mem_cons_of_mem _ e
    have c := l _ b
    have d : m ≤ maxF x xs := by
      rcases List.mem_cons.mp h with rfl | h
      · exact a.1
      · exact a.2 m h
    show maxF x xs = m
    omega
theorem dmax_ints : ∀ (xs : List Int) (x : Int), dmax (.int x) (xs.map .int) = .int (maxF x xs)
  | [], _ => rfl
  | y :: xs, x => by
    have := dmax_ints xs (if x < y then y else x)
    unfold dmax maxF at *
    rw [List.map_cons, List.foldl_cons, List.foldl_cons, ← this]
    congr 1
    simp only [dlt, decide_eq_true_eq]
    split <;> rfl
theorem bi_maxI (h : AH) {xs : List Int} (e : xs ≠ []) : biEv .maxL h [.lst (xs.map .int)] = some (.int (maxI xs), false) := by
  cases xs with
  | nil => exact (e rfl).elim
  | cons x xs =>
    have s := sortable_ints (x :: xs)
    rw [List.map_cons] at s
    simp only [biEv, stems, litems, List.map_cons, Option.bind_some, s, if_true, dmax_ints]
    rfl
/-! ### widths at a point -/
theorem sum_le {α : Type} (f : α → Int) (b : Int) : ∀ xs : List α, (∀ x ∈ xs, f x ≤ b) → (xs.map f).sum ≤ b * xs.length
  | [], _ => by simp
  | x :: xs, h => by
    have := sum_le f b xs fun y m => h y (List.mem_cons_of_mem _ m)
    have := h x (List.mem_cons_self ..)
    rw [List.map_cons, List.sum_cons, List.length_cons]
    have e : b * ((xs.length + 1 : Nat) : Int) = b * xs.length + b := by rw [Int.natCast_add, Int.mul_add]; simp
    omega
theorem sat_le {p : Int} {rs : List (Int × Int × Int)} (g : isNt p rs = true) (x : Int) (x0 : 0 ≤ x) (x1 : x < p) : satN rs x ≤ 36 := by
  obtain ⟨-, b, c⟩ := areLks_iff.mp (isNt_lks g)
  have p7 := isNt_7 g
  unfold satN
  let F := rs.filter fun r => decide (x = r.1) || decide (x = r.2.1)
  have hF : ∀ r ∈ F, isLk p r = true ∧ (x = r.1 ∨ x = r.2.1) := fun r m => by
    have := List.mem_filter.mp m
    exact ⟨b r this.1, by simpa using this.2⟩
  have nd : (F.map fun r => if x = r.1 then r.2.1 else r.1).Nodup := by
    have pw : F.Pairwise fun r q => prLt r q = true := c.sublist List.filter_sublist
    show List.Pairwise _ _
    rw [List.pairwise_map]
    refine pw.imp_of_mem fun {r q} hr hq h e => ?_
    have a1 := isLk_lt (hF r hr).1
    have a2 := isLk_lt (hF q hq).1
    have c1 := (hF r hr).2
    have c2 := (hF q hq).2
    simp only [prLt, Bool.or_eq_true, Bool.and_eq_true, decide_eq_true_eq, beq_iff_eq] at h
    split at e <;> split at e <;> omega
  have len : F.length ≤ 6 := by
    have := nd_le (ys := (rgI 0 p).erase x) nd fun y hy => by
      obtain ⟨r, hr, rfl⟩ := List.mem_map.mp hy
      have a1 := isLk_lt (hF r hr).1
      have c1 := (hF r hr).2
      rw [List.mem_erase_of_ne (by split <;> omega)]
      rw [mem_rgI]
      split <;> omega
    rw [List.length_map, List.length_erase_of_mem (mem_rgI.mpr ⟨x0, x1⟩), rgI_len] at this
    omega
  have := sum_le (fun r : Int × Int × Int => r.2.2) 6 F fun r hr => (isLk_lt (hF r hr).1).2.2.2.2
  show (F.map fun r => r.2.2).sum ≤ 36
  omega
theorem wid_single (rs : List (Int × Int × Int)) (h : ∀ r ∈ rs, r.1 ≠ r.2.1) (x : Int) : wid rs [x] = satN rs x := by
  have a := wid_sat (f := [x]) (by simp) rs h
  have : innN rs [x] = 0 := by
    unfold innN
    have : (rs.filter fun r => decide (r.1 ∈ [x]) && decide (r.2.1 ∈ [x])) = [] := by
      rw [List.filter_eq_nil_iff]
      intro r m
      have := h r m
      simp
      omega
    rw [this]
    rfl
  rw [this] at a
  simp at a
  omega
theorem lst_36 {p : Int} {rs : List (Int × Int × Int)} (g : isNt p rs = true) {q : Int × Int} (gq : 0 ≤ q.1 ∧ q.1 < q.2 ∧ q.2 < p) : lstN p rs [q] ≤ 36 := by
  have pts := isNt_pts g
  have m : [q.2] ∈ cutN p [q] := by
    refine mem_cutN.mpr ⟨(mem_fcs (by omega)).mpr ⟨by simp, by simp, by simp; omega⟩, fun z hz => ?_⟩
    rw [List.mem_singleton] at hz
    subst hz
    have : ¬ z.1 = z.2 := by omega
    simp [crP, this]
  have := lst_le (rs := rs) m
  rw [wid_single rs (fun r hr => by have := pts r hr; omega)] at this
  have := sat_le g q.2 (by omega) (by omega)
  omega
theorem lst_nn {p : Int} {rs : List (Int × Int × Int)} {qs : List (Int × Int)} (h : ∀ r ∈ rs, 0 ≤ r.2.2) (ne : cutN p qs ≠ []) : 0 ≤ lstN p rs qs := by
  obtain ⟨f, -, e⟩ := lfs_ne p rs qs ne
  rw [← e]
  exact wid_nn h f
/-! ### amounts -/
def fnR (C D a : Int) : List Int := (rgI 0 (C + 1)).filter fun b => decide (a + b ≤ D)
def gtR (C D a : Int) : List Int := (rgI 0 (C + 1)).filter fun b => decide (a + b = D)
theorem rg_le_len (n m : Int) : (((rgI 0 n).filter fun b => decide (b ≤ m)).length : Int) = max 0 (min n (m + 1)) := by
  have e : (rgI 0 n).filter (fun b => decide (b ≤ m)) = rgI 0 (min n (m + 1)) := by
    refine pw_ext ((rgI_pw 0 n).filter _) (rgI_pw 0 _) fun x => ?_
    rw [List.mem_filter, mem_rgI, mem_rgI, decide_eq_true_eq]
    omega
  rw [e, rgI_len]
  omega
theorem fnR_len {C D a : Int} (h : a ≤ D + 1) (hC : 0 ≤ C) : ((fnR C D a).length : Int) = min (C + 1) (D - a + 1) := by
  have e : fnR C D a = (rgI 0 (C + 1)).filter fun b => decide (b ≤ D - a) := by
    unfold fnR
    apply List.filter_congr
    intro x _
    congr 1
    apply propext
    omega
  rw [e, rg_le_len]
  omega
theorem cnt_fine {C D : Int} (hC : 0 ≤ C) (hD : C ≤ D) : ∀ (n : Nat) (B : Int), B = n → B ≤ D → 2 * ((((rgI 0 (B + 1)).map fun a => (fnR C D a).length).sum : Nat) : Int) = 2 * ((B + 1) * (C + 1)) - (max 0 (B + C - D)) * (max 0 (B + C - D) + 1)
  | 0, B, e, l => by
    subst e
    have : rgI 0 (((0 : Nat) : Int) + 1) = [0] := rfl
    rw [this]
    have a := fnR_len (C := C) (D := D) (a := 0) (by omega) hC
    have z : max 0 (((0 : Nat) : Int) + C - D) = 0 := by omega
    rw [z]
    simp
    omega
  | n + 1, B, e, l => by
    have ih := cnt_fine hC hD n (B - 1) (by omega) (by omega)
    have r : rgI 0 (B + 1) = rgI 0 (B - 1 + 1) ++ [B] := by
      have := rgI_snoc (a := 0) (b := B) (by omega)
      rw [this, show B - 1 + 1 = B by omega]
    have a := fnR_len (C := C) (D := D) (a := B) (by omega) hC
    rw [r, List.map_append, List.sum_append, Int.natCast_add, Int.mul_add, ih]
    simp only [List.map_cons, List.map_nil, List.sum_cons, List.sum_nil, Nat.add_zero]
    rw [a]
    have m1 : (B + 1) * (C + 1) = (B - 1 + 1) * (C + 1) + (C + 1) := by
      rw [show B + 1 = (B - 1 + 1) + 1 by omega, Int.add_mul, Int.one_mul]
    rw [m1]
    by_cases c : B + C ≤ D
    · have z1 : max 0 (B - 1 + C - D) = 0 := by omega
      have z2 : max 0 (B + C - D) = 0 := by omega
      rw [z1, z2]
      generalize (B - 1 + 1) * (C + 1) = P
      omega
    · obtain ⟨T, hT⟩ : ∃ T, max 0 (B - 1 + C - D) = T := ⟨_, rfl⟩
      have hT2 : max 0 (B + C - D) = T + 1 := by omega
      rw [hT, hT2]
      have m2 : (T + 1) * (T + 1 + 1) = T * (T + 1) + 2 * (T + 1) := by
        rw [Int.add_mul, Int.one_mul, Int.mul_add, Int.mul_one]
        omega
      rw [m2]
      generalize (B - 1 + 1) * (C + 1) = P
      generalize T * (T + 1) = Q
      omega
theorem flat_len {α β : Type} (f : α → List β) : ∀ xs : List α, (xs.flatMap f).length = (xs.map fun x => (f x).length).sum
  | [] => rfl
  | x :: xs => by simp [List.flatMap_cons, flat_len f xs]
/-- the greatest amounts -/
theorem gt_eq {B C D : Int} (hC : 0 ≤ C) (hD : C ≤ D) (hB : B ≤ D) : ((rgI 0 (B + 1)).flatMap fun a => (gtR C D a).map fun b => (a, b)) = (rgI (D - C) (B + 1)).map fun a => (a, D - a) := by
  have one : ∀ a, 0 ≤ a → a ≤ B → gtR C D a = if D - C ≤ a then [D - a] else [] := fun a a0 aB => by
    unfold gtR
    split
    · refine pw_ext ((rgI_pw 0 _).filter _) (by simp) fun x => ?_
      rw [List.mem_filter, mem_rgI, decide_eq_true_eq, List.mem_singleton]
      omega
    · rw [List.filter_eq_nil_iff]
      intro x hx
      obtain ⟨x0, x1⟩ := mem_rgI.mp hx
      simp
      omega
  have key : ∀ (n : Nat) (a : Int), 0 ≤ a → (B + 1 - a).toNat = n → ((rgI a (B + 1)).flatMap fun a => (gtR C D a).map fun b => (a, b)) = (rgI (max a (D - C)) (B + 1)).map fun a => (a, D - a) := by
    intro n
    induction n with
    | zero =>
      intro a a0 e
      rw [rgI_nil (by omega), rgI_nil (by omega)]
      rfl
    | succ n ih =>
      intro a a0 e
      rw [rgI_cons (by omega), List.flatMap_cons, ih (a + 1) (by omega) (by omega), one a a0 (by omega)]
      by_cases c : D - C ≤ a
      · rw [if_pos c, show max a (D - C) = a by omega, show max (a + 1) (D - C) = a + 1 by omega]
        conv => rhs; rw [rgI_cons (by omega)]
        rfl
      · rw [if_neg c, show max (a + 1) (D - C) = max a (D - C) by omega]
        rfl
  rw [key _ 0 (by omega) rfl, show max 0 (D - C) = D - C by omega]
end Rw
namespace Rw
@[simp] theorem ix_l2 (h : AH) (x y z : D) (xs : List D) : ixEv h (.lst (x :: y :: z :: xs)) (.int 2) = some (z, false) := by
  have e : ixOf (xs.length + 1 + 1 + 1) 2 = some 2 := ixOf_at (by omega) (by omega)
  simp [ixEv, ddOf, items, e]
@[simp] theorem ix_t3 (h : AH) (x y z w : D) (xs : List D) : ixEv h (.tup (x :: y :: z :: w :: xs)) (.int 3) = some (w, false) := by
  have e : ixOf (xs.length + 1 + 1 + 1 + 1) 3 = some 3 := ixOf_at (by omega) (by omega)
  simp [ixEv, ddOf, items, e]
end Rw
end

section
set_option Elab.async false
set_option linter.all false
set_option maxRecDepth 100000
set_option maxHeartbeats 4000000
/-! RfB7: plain laws: walks, distances, simple paths. Edges: (one, other, length). -/
namespace Rw
abbrev Ed := Int × Int × Int
def Stp (E : List Ed) (x y l : Int) : Prop := (x, y, l) ∈ E ∨ (y, x, l) ∈ E
theorem Stp.symm {E : List Ed} {x y l : Int} (h : Stp E x y l) : Stp E y x l := h.elim .inr .inl
inductive Wk (E : List Ed) (s : Int) : Int → Int → Prop
  | nil : Wk E s s 0
  | snoc {y z c l : Int} : Wk E s y c → Stp E y z l → Wk E s z (c + l)
structure EOk (p : Int) (E : List Ed) : Prop where
  pt : ∀ e ∈ E, 0 ≤ e.1 ∧ e.1 < e.2.1 ∧ e.2.1 < p
  nn : ∀ e ∈ E, 0 ≤ e.2.2
  pw : E.Pairwise fun a b => ¬ (a.1 = b.1 ∧ a.2.1 = b.2.1)
theorem Stp.pt {p : Int} {E : List Ed} (o : EOk p E) {x y l : Int} (h : Stp E x y l) : 0 ≤ x ∧ x < p ∧ 0 ≤ y ∧ y < p ∧ x ≠ y ∧ 0 ≤ l := by
  rcases h with h | h
  · have := o.pt _ h; have := o.nn _ h; simp only at *; omega
  · have := o.pt _ h; have := o.nn _ h; simp only at *; omega
theorem Wk.nn {p : Int} {E : List Ed} (o : EOk p E) {s z c : Int} (h : Wk E s z c) : 0 ≤ c := by
  induction h with
  | nil => omega
  | snoc _ st ih => have := st.pt o; omega
theorem Wk.pt {p : Int} {E : List Ed} (o : EOk p E) {s z c : Int} (h : Wk E s z c) (s0 : 0 ≤ s ∧ s < p) : 0 ≤ z ∧ z < p := by
  cases h with
  | nil => exact s0
  | snoc _ st => have := st.pt o; omega
theorem Wk.trans {E : List Ed} {x y z c d : Int} (h : Wk E x y c) (g : Wk E y z d) : Wk E x z (c + d) := by
  induction g with
  | nil => rw [Int.add_zero]; exact h
  | snoc _ st ih => rw [← Int.add_assoc]; exact .snoc ih st
theorem Wk.symm {E : List Ed} {x y c : Int} (h : Wk E x y c) : Wk E y x c := by
  induction h with
  | nil => exact .nil
  | snoc _ st ih =>
    rename_i y z c l _
    have a : Wk E z y (0 + l) := .snoc .nil st.symm
    have := a.trans ih
    rwa [show 0 + l + c = c + l by omega] at this
def IsD (E : List Ed) (s z d : Int) : Prop := Wk E s z d ∧ ∀ c, Wk E s z c → d ≤ c
theorem IsD.uniq {E : List Ed} {s z d d' : Int} (h : IsD E s z d) (h' : IsD E s z d') : d = d' := Int.le_antisymm (h.2 _ h'.1) (h'.2 _ h.1)
theorem isD_ex {p : Int} {E : List Ed} (o : EOk p E) {s z c : Int} (h : Wk E s z c) : ∃ d, IsD E s z d := by
  obtain ⟨d, a, b, -, e⟩ := least_ex (P := fun c => Wk E s z c) (h.nn o) h
  exact ⟨d, a, fun c hc => e c hc (hc.nn o)⟩
theorem isD_self {p : Int} {E : List Ed} (o : EOk p E) (s : Int) : IsD E s s 0 := ⟨.nil, fun c h => h.nn o⟩
/-- the distance, 0 where there is none -/
noncomputable def dst (E : List Ed) (s z : Int) : Int := open Classical in if h : ∃ d, IsD E s z d then Classical.choose h else 0
theorem dst_of {E : List Ed} {s z d : Int} (h : IsD E s z d) : dst E s z = d := by
  unfold dst
  have e : ∃ d, IsD E s z d := ⟨d, h⟩
  rw [dif_pos e]
  exact (Classical.choose_spec e).uniq h
theorem dst_no {E : List Ed} {s z : Int} (h : ∀ c, ¬ Wk E s z c) : dst E s z = 0 := by
  unfold dst
  rw [dif_neg fun ⟨d, e⟩ => h d e.1]
theorem dst_tri {p : Int} {E : List Ed} (o : EOk p E) {s y z l : Int} (st : Stp E y z l) : (dst E s y - dst E s z).natAbs ≤ l := by
  have key : ∀ {y z : Int}, Stp E y z l → (∃ c, Wk E s y c) → dst E s z ≤ dst E s y + l := fun {y z} st ⟨c, w⟩ => by
    obtain ⟨d, hd⟩ := isD_ex o w
    obtain ⟨d', hd'⟩ := isD_ex o (Wk.snoc hd.1 st)
    rw [dst_of hd, dst_of hd']
    exact hd'.2 _ (.snoc hd.1 st)
  have l0 := (st.pt o).2.2.2.2.2
  by_cases h : ∃ c, Wk E s y c
  · have h2 : ∃ c, Wk E s z c := h.elim fun c w => ⟨_, .snoc w st⟩
    have := key st h
    have := key st.symm h2
    omega
  · have h2 : ¬ ∃ c, Wk E s z c := fun ⟨c, w⟩ => h ⟨_, .snoc w st.symm⟩
    rw [dst_no fun c w => h ⟨c, w⟩, dst_no fun c w => h2 ⟨c, w⟩]
    omega
/-! ### simple paths -/
def lst (P : List Int) : Int := P.getLastD 0
inductive Sp (E : List Ed) (s : Int) : List Int → Prop
  | one : Sp E s [s]
  | ext {P : List Int} {z l : Int} : Sp E s P → Stp E (lst P) z l → z ∉ P → Sp E s (P ++ [z])
theorem lst_app (P : List Int) (z : Int) : lst (P ++ [z]) = z := by simp [lst]
theorem Sp.ne {E : List Ed} {s : Int} {P : List Int} (h : Sp E s P) : P ≠ [] := by cases h <;> simp
theorem lst_mem {P : List Int} (h : P ≠ []) : lst P ∈ P := by
  unfold lst
  rw [List.getLastD_eq_getLast?, List.getLast?_eq_some_getLast h]
  exact List.getLast_mem h
/-- the pairs of neighbours -/
def alg : List Int → List (Int × Int)
  | [] => []
  | [_] => []
  | x :: y :: P => (min x y, max x y) :: alg (y :: P)
theorem alg_app : ∀ {P : List Int} (z : Int), P ≠ [] → alg (P ++ [z]) = alg P ++ [(min (lst P) z, max (lst P) z)]
  | [x], z, _ => rfl
  | x :: y :: P, z, _ => by
    have := alg_app (P := y :: P) z (by simp)
    show (min x y, max x y) :: alg (y :: P ++ [z]) = _
    rw [this]
    rfl
theorem alg_mem : ∀ {P : List Int} {q : Int × Int}, q ∈ alg P → q.1 ∈ P ∧ q.2 ∈ P
  | [], _, h => by cases h
  | [_], _, h => by cases h
  | x :: y :: P, q, h => by
    rcases List.mem_cons.mp h with rfl | h
    · simp only
      constructor
      · rcases Int.le_total x y with c | c
        · rw [Int.min_eq_left c]; simp
        · rw [Int.min_eq_right c]; simp
      · rcases Int.le_total x y with c | c
        · rw [Int.max_eq_right c]; simp
        · rw [Int.max_eq_left c]; simp
    · have := alg_mem h
      exact ⟨List.mem_cons_of_mem _ this.1, List.mem_cons_of_mem _ this.2⟩
/-- the sum of the lengths along a path -/
def pc (E : List Ed) (P : List Int) : Int := ((E.filter fun e => decide ((e.1, e.2.1) ∈ alg P)).map fun e => e.2.2).sum
theorem sum_fil (E : List Ed) (a b : List (Int × Int)) (h : ∀ q ∈ b, q ∉ a) : ((E.filter fun e => decide ((e.1, e.2.1) ∈ a ++ b)).map fun e => e.2.2).sum = ((E.filter fun e => decide ((e.1, e.2.1) ∈ a)).map fun e => e.2.2).sum + ((E.filter fun e => decide ((e.1, e.2.1) ∈ b)).map fun e => e.2.2).sum := by
  induction E with
  | nil => rfl
  | cons e E ih =>
    simp only [List.filter_cons]
    by_cases ha : (e.1, e.2.1) ∈ a
    · have hb : (e.1, e.2.1) ∉ b := fun m => h _ m ha
      simp only [List.mem_append, ha, hb, or_false, decide_true, decide_false, if_true, List.map_cons, List.sum_cons]
      simp only [List.mem_append] at ih
      rw [ih]
      simp
      omega
    · by_cases hb : (e.1, e.2.1) ∈ b
      · simp only [List.mem_append, ha, hb, false_or, decide_true, decide_false, if_true, List.map_cons, List.sum_cons]
        simp only [List.mem_append] at ih
        rw [ih]
        simp
        omega
      · simp only [List.mem_append, ha, hb, or_self, decide_false]
        simp only [List.mem_append] at ih
        exact ih
theorem sum_one {E : List Ed} (pw : E.Pairwise fun a b => ¬ (a.1 = b.1 ∧ a.2.1 = b.2.1)) {e : Ed} (m : e ∈ E) : ((E.filter fun r => decide ((r.1, r.2.1) ∈ [(e.1, e.2.1)])).map fun r => r.2.2).sum = e.2.2 := by
  induction E with
  | nil => cases m
  | cons x E ih =>
    obtain ⟨p1, p2⟩ := List.pairwise_cons.mp pw
    rw [List.filter_cons]
    rcases List.mem_cons.mp m with rfl | m
    · have : (E.filter fun r => decide ((r.1, r.2.1) ∈ [(e.1, e.2.1)])) = [] := by
        rw [List.filter_eq_nil_iff]
        intro r hr
        have := p1 r hr
        simp
        intro h1 h2
        exact this ⟨h1.symm, h2.symm⟩
      rw [if_pos (by simp), this]
      simp
    · have h := p1 e m
      rw [if_neg (by simp; intro h1 h2; exact h ⟨h1, h2⟩)]
      exact ih p2 m
theorem pc_ext {p : Int} {E : List Ed} (o : EOk p E) {P : List Int} {z l : Int} (hP : P ≠ []) (st : Stp E (lst P) z l) (n : z ∉ P) : pc E (P ++ [z]) = pc E P + l := by
  unfold pc
  rw [alg_app z hP, sum_fil]
  · congr 1
    have pt := st.pt o
    rcases st with h | h
    · have a := o.pt _ h
      simp only at a
      rw [Int.min_eq_left (by omega), Int.max_eq_right (by omega)]
      exact sum_one o.pw h
    · have a := o.pt _ h
      simp only at a
      rw [Int.min_eq_right (by omega), Int.max_eq_left (by omega)]
      exact sum_one o.pw h
  · intro q hq m
    rw [List.mem_singleton] at hq
    subst hq
    have := alg_mem m
    simp only at this
    rcases Int.le_total (lst P) z with c | c
    · rw [Int.max_eq_right c] at this; exact n this.2
    · rw [Int.min_eq_right c] at this; exact n this.1
theorem pc_one (E : List Ed) (s : Int) : pc E [s] = 0 := by
  unfold pc
  have : (E.filter fun e => decide ((e.1, e.2.1) ∈ alg [s])) = [] := by
    rw [List.filter_eq_nil_iff]
    intro e _
    simp [alg]
  rw [this]
  rfl
theorem Sp.wk {p : Int} {E : List Ed} (o : EOk p E) {s : Int} {P : List Int} (h : Sp E s P) : Wk E s (lst P) (pc E P) := by
  induction h with
  | one => rw [pc_one]; exact .nil
  | ext hP st n ih => rw [lst_app, pc_ext o hP.ne st n]; exact .snoc ih st
/-- the part of a path up to one of its points -/
theorem Sp.pre {p : Int} {E : List Ed} (o : EOk p E) {s : Int} {P : List Int} (h : Sp E s P) {z : Int} (m : z ∈ P) : ∃ Q, Sp E s Q ∧ lst Q = z ∧ pc E Q ≤ pc E P := by
  induction h with
  | one =>
    rw [List.mem_singleton] at m
    subst m
    exact ⟨[z], .one, rfl, Int.le_refl _⟩
  | ext hP st n ih =>
    rename_i P y l
    have l0 := (st.pt o).2.2.2.2.2
    rcases List.mem_append.mp m with m | m
    · obtain ⟨Q, a, b, c⟩ := ih m
      refine ⟨Q, a, b, ?_⟩
      rw [pc_ext o hP.ne st n]
      omega
    · rw [List.mem_singleton] at m
      subst m
      exact ⟨_, .ext hP st n, lst_app _ _, Int.le_refl _⟩
theorem sp_of {p : Int} {E : List Ed} (o : EOk p E) {s z d : Int} (h : IsD E s z d) : ∃ P, Sp E s P ∧ lst P = z ∧ pc E P = d := by
  have key : ∀ {z c : Int}, Wk E s z c → ∃ P, Sp E s P ∧ lst P = z ∧ pc E P ≤ c := by
    intro z c w
    induction w with
    | nil => exact ⟨[s], .one, rfl, by rw [pc_one]; omega⟩
    | snoc w st ih =>
      rename_i y z c l
      obtain ⟨P, a, b, e⟩ := ih
      have l0 := (st.pt o).2.2.2.2.2
      by_cases m : z ∈ P
      · obtain ⟨Q, a', b', e'⟩ := a.pre o m
        exact ⟨Q, a', b', by omega⟩
      · rw [← b] at st
        exact ⟨P ++ [z], .ext a st m, lst_app _ _, by rw [pc_ext o a.ne st m]; omega⟩
  obtain ⟨P, a, b, e⟩ := key h.1
  refine ⟨P, a, b, ?_⟩
  have := h.2 _ (b ▸ a.wk o)
  omega
theorem Sp.nodup {E : List Ed} {s : Int} {P : List Int} (h : Sp E s P) : P.Nodup := by
  induction h with
  | one => simp
  | ext hP st n ih =>
    rw [List.nodup_append]
    refine ⟨ih, by simp, fun a ha b hb e => ?_⟩
    rw [List.mem_singleton] at hb
    subst hb e
    exact n ha
theorem Sp.pts {p : Int} {E : List Ed} (o : EOk p E) {s : Int} (hs : 0 ≤ s ∧ s < p) {P : List Int} (h : Sp E s P) : ∀ x ∈ P, 0 ≤ x ∧ x < p := by
  induction h with
  | one => intro x m; rw [List.mem_singleton] at m; subst m; exact hs
  | ext hP st n ih =>
    intro x m
    rcases List.mem_append.mp m with m | m
    · exact ih x m
    · rw [List.mem_singleton] at m
      subst m
      have := st.pt o
      omega
theorem Sp.len {p : Int} {E : List Ed} (o : EOk p E) {s : Int} (hs : 0 ≤ s ∧ s < p) {P : List Int} (h : Sp E s P) : (P.length : Int) ≤ p := by
  have := nodup_le h.nodup (h.pts o hs)
  omega
/-! ### the paths, listed -/
def nbr (E : List Ed) (x : Int) : List Int := (E.filter fun e => decide (e.1 = x)).map (fun e => e.2.1) ++ (E.filter fun e => decide (e.2.1 = x)).map (fun e => e.1)
theorem mem_nbr {E : List Ed} {x z : Int} : z ∈ nbr E x ↔ ∃ l, Stp E x z l := by
  unfold nbr Stp
  simp only [List.mem_append, List.mem_map, List.mem_filter, decide_eq_true_eq]
  constructor
  · rintro (⟨e, ⟨m, rfl⟩, rfl⟩ | ⟨e, ⟨m, rfl⟩, rfl⟩)
    · exact ⟨e.2.2, .inl m⟩
    · exact ⟨e.2.2, .inr m⟩
  · rintro ⟨l, h | h⟩
    · exact .inl ⟨_, ⟨h, rfl⟩, rfl⟩
    · exact .inr ⟨_, ⟨h, rfl⟩, rfl⟩
/-- one point more, not behind the end o -/
def extR (E : List Ed) (o : Int) (rows : List (List Int)) : List (List Int) := rows.flatMap fun P => ((nbr E (lst P)).filter fun z => !decide (z ∈ P) && !decide (lst P = o)).map fun z => P ++ [z]
def rowsN (E : List Ed) (s o : Int) : Nat → List (List Int)
  | 0 => [[s]]
  | n + 1 => extR E o (rowsN E s o n)
def fndN (E : List Ed) (s o : Int) : Nat → List (List Int)
  | 0 => []
  | n + 1 => fndN E s o n ++ (rowsN E s o (n + 1)).filter fun P => decide (lst P = o)
theorem rows_sp {E : List Ed} {s o : Int} : ∀ {n : Nat} {P : List Int}, P ∈ rowsN E s o n → Sp E s P
  | 0, P, h => by
    have : P = [s] := by simpa [rowsN] using h
    subst this
    exact .one
  | n + 1, P, h => by
    unfold rowsN extR at h
    simp only [List.mem_flatMap, List.mem_map, List.mem_filter, Bool.and_eq_true, Bool.not_eq_true', decide_eq_false_iff_not] at h
    obtain ⟨Q, hQ, z, ⟨hz, n1, -⟩, rfl⟩ := h
    obtain ⟨l, st⟩ := mem_nbr.mp hz
    exact .ext (rows_sp hQ) st n1
theorem fnd_sp {E : List Ed} {s o : Int} : ∀ {n : Nat} {P : List Int}, P ∈ fndN E s o n → Sp E s P ∧ lst P = o
  | 0, P, h => by cases h
  | n + 1, P, h => by
    rcases List.mem_append.mp h with h | h
    · exact fnd_sp h
    · have := List.mem_filter.mp h
      exact ⟨rows_sp this.1, by simpa using this.2⟩
theorem rows_of {E : List Ed} {s o : Int} {P : List Int} (h : Sp E s P) (n : o ∉ P.dropLast) : P ∈ rowsN E s o (P.length - 1) := by
  induction h with
  | one => simp [rowsN]
  | ext hP st nz ih =>
    rename_i P z l
    have e1 : (P ++ [z]).dropLast = P := by simp
    rw [e1] at n
    have e2 : (P ++ [z]).length - 1 = P.length - 1 + 1 := by
      have : 0 < P.length := List.length_pos_iff.mpr hP.ne
      simp
      omega
    rw [e2]
    unfold rowsN extR
    simp only [List.mem_flatMap, List.mem_map, List.mem_filter, Bool.and_eq_true, Bool.not_eq_true', decide_eq_false_iff_not]
    exact ⟨P, ih fun m => n (List.dropLast_subset _ m), z, ⟨mem_nbr.mpr ⟨l, st⟩, nz, fun e => n (e ▸ lst_mem hP.ne)⟩, rfl⟩
theorem fnd_mono {E : List Ed} {s o : Int} {P : List Int} : ∀ {m n : Nat}, m ≤ n → P ∈ fndN E s o m → P ∈ fndN E s o n
  | m, 0, h, hp => by have : m = 0 := by omega
                      subst this; exact hp
  | m, n + 1, h, hp => by
    by_cases e : m = n + 1
    · subst e; exact hp
    · exact List.mem_append_left _ (fnd_mono (n := n) (by omega) hp)
theorem fnd_of {p : Int} {E : List Ed} (ok : EOk p E) {s o : Int} (hs : 0 ≤ s ∧ s < p) (hso : s ≠ o) {P : List Int} (h : Sp E s P) (l : lst P = o) : P ∈ fndN E s o p.toNat := by
  have len := h.len ok hs
  have nd := h.nodup
  cases h with
  | one => exact (hso l).elim
  | ext hP st n =>
    rename_i Q z l'
    rw [lst_app] at l
    subst l
    have hl : 0 < Q.length := List.length_pos_iff.mpr hP.ne
    have r := rows_of (o := z) (Sp.ext hP st n) (by simpa using n)
    have e : (Q ++ [z]).length - 1 = Q.length - 1 + 1 := by simp; omega
    rw [e] at r
    have : Q ++ [z] ∈ fndN E s z (Q.length - 1 + 1) := List.mem_append_right _ (List.mem_filter.mpr ⟨r, by simp [lst_app]⟩)
    refine fnd_mono ?_ this
    rw [List.length_append] at len
    simp at len
    omega
/-- the least sum along the paths is the distance -/
theorem fnd_min {p : Int} {E : List Ed} (ok : EOk p E) {s o : Int} (hs : 0 ≤ s ∧ s < p) (hso : s ≠ o) (ne : fndN E s o p.toNat ≠ []) : dst E s o ∈ (fndN E s o p.toNat).map (pc E) ∧ ∀ y ∈ (fndN E s o p.toNat).map (pc E), dst E s o ≤ y := by
  obtain ⟨P, hP⟩ := List.exists_mem_of_ne_nil _ ne
  obtain ⟨a, b⟩ := fnd_sp hP
  obtain ⟨d, hd⟩ := isD_ex ok (b ▸ a.wk ok)
  rw [dst_of hd]
  constructor
  · obtain ⟨Q, x, y, z⟩ := sp_of ok hd
    exact List.mem_map.mpr ⟨Q, fnd_of ok hs hso x y, z⟩
  · intro y hy
    obtain ⟨Q, hQ, rfl⟩ := List.mem_map.mp hy
    obtain ⟨x, y⟩ := fnd_sp hQ
    exact hd.2 _ (y ▸ x.wk ok)
theorem fnd_no {p : Int} {E : List Ed} (ok : EOk p E) {s o : Int} (hs : 0 ≤ s ∧ s < p) (hso : s ≠ o) (ne : fndN E s o p.toNat = []) : dst E s o = 0 := by
  refine dst_no fun c w => ?_
  obtain ⟨d, hd⟩ := isD_ex ok w
  obtain ⟨Q, x, y, z⟩ := sp_of ok hd
  have := fnd_of ok hs hso x y
  rw [ne] at this
  cases this
theorem fnd_self {E : List Ed} {s : Int} : ∀ n, fndN E s s n = [] ∧ (n ≠ 0 → rowsN E s s n = []) := by
  have r1 : rowsN E s s 1 = [] := by
    simp [rowsN, extR, lst]
  have r : ∀ n, rowsN E s s (n + 1) = [] := by
    intro n
    induction n with
    | zero => exact r1
    | succ n ih => show extR E s (rowsN E s s (n + 1)) = []; rw [ih]; rfl
  intro n
  induction n with
  | zero => exact ⟨rfl, fun h => (h rfl).elim⟩
  | succ n ih =>
    refine ⟨?_, fun _ => r n⟩
    show fndN E s s n ++ (rowsN E s s (n + 1)).filter _ = []
    rw [ih.1, r n]
    rfl
end Rw
end

section
set_option Elab.async false
set_option linter.all false
set_option maxRecDepth 100000
set_option maxHeartbeats 4000000
/-! RfB8: least sums, round by round. -/
namespace Rw
/-- sums that begin somewhere -/
inductive Vl (E : List Ed) (base : Int → Int → Prop) : Int → Int → Prop
  | b {x c : Int} : base x c → Vl E base x c
  | st {y z c l : Int} : Vl E base y c → Stp E y z l → Vl E base z (c + l)
def IsM (E : List Ed) (base : Int → Int → Prop) (x d : Int) : Prop := Vl E base x d ∧ ∀ c, Vl E base x c → d ≤ c
def Fin' (E : List Ed) (base : Int → Int → Prop) (f : Int → Option Int) (x : Int) : Prop := ∃ d, IsM E base x d ∧ f x = some d
def Dec (f f' : Int → Option Int) : Prop := ∀ x c, f x = some c → ∃ c', f' x = some c' ∧ c' ≤ c
theorem Dec.refl (f : Int → Option Int) : Dec f f := fun x c h => ⟨c, h, Int.le_refl _⟩
theorem Dec.trans {f g h : Int → Option Int} (a : Dec f g) (b : Dec g h) : Dec f h := fun x c e => by
  obtain ⟨c1, e1, l1⟩ := a x c e
  obtain ⟨c2, e2, l2⟩ := b x c1 e1
  exact ⟨c2, e2, Int.le_trans l2 l1⟩
structure VInv (E : List Ed) (base : Int → Int → Prop) (f : Int → Option Int) : Prop where
  ok : ∀ x c, f x = some c → Vl E base x c
  bs : ∀ x c, base x c → ∃ c', f x = some c' ∧ c' ≤ c
def Rlx (E : List Ed) (f f' : Int → Option Int) : Prop := ∀ y z l c, Stp E y z l → f y = some c → ∃ c', f' z = some c' ∧ c' ≤ c + l
section
variable {p : Int} {E : List Ed} {base : Int → Int → Prop}
theorem Fin'.mono {f f' : Int → Option Int} (i' : VInv E base f') (d : Dec f f') {x : Int} (h : Fin' E base f x) : Fin' E base f' x := by
  obtain ⟨m, hm, e⟩ := h
  obtain ⟨c', e', l⟩ := d x m e
  have := hm.2 c' (i'.ok x c' e')
  have : c' = m := by omega
  subst this
  exact ⟨c', hm, e'⟩
theorem closed_all {f : Int → Option Int} (i : VInv E base f) (cl : ∀ y z l d, IsM E base y d → f y = some d → Stp E y z l → IsM E base z (d + l) → Fin' E base f z) : ∀ {z c : Int}, Vl E base z c → IsM E base z c → Fin' E base f z := by
  intro z c v
  induction v with
  | b hb =>
    rename_i x c
    intro m
    obtain ⟨c', e, l⟩ := i.bs x c hb
    have := m.2 c' (i.ok _ _ e)
    have : c' = c := by omega
    subst this
    exact ⟨c', m, e⟩
  | st v s ih =>
    rename_i y z c l
    intro m
    have my : IsM E base y c := ⟨v, fun c' v' => by have := m.2 _ (.st v' s); omega⟩
    obtain ⟨d, hd, e⟩ := ih my
    have : d = c := Int.le_antisymm (hd.2 _ v) (my.2 _ hd.1)
    subst this
    exact cl y z l d hd e s m
open Classical in
noncomputable def cntF (p : Int) (E : List Ed) (base : Int → Int → Prop) (f : Int → Option Int) : Nat := ((rgI 0 p).filter fun x => decide (Fin' E base f x)).length
theorem filt_lt {α : Type} {P Q : α → Bool} : ∀ {l : List α} {z : α}, (∀ x ∈ l, P x = true → Q x = true) → z ∈ l → P z = false → Q z = true → (l.filter P).length < (l.filter Q).length
  | [], z, _, m, _, _ => by cases m
  | x :: l, z, h, m, hp, hq => by
    have le : ∀ {l : List α}, (∀ x ∈ l, P x = true → Q x = true) → (l.filter P).length ≤ (l.filter Q).length := by
      intro l
      induction l with
      | nil => intro; simp
      | cons y l ih =>
        intro h
        have := ih fun x m => h x (List.mem_cons_of_mem _ m)
        rw [List.filter_cons, List.filter_cons]
        cases hy : P y
        · cases Q y <;> simp <;> omega
        · rw [h y (List.mem_cons_self ..) hy]; simp; omega
    have hl : ∀ x ∈ l, P x = true → Q x = true := fun x m => h x (List.mem_cons_of_mem _ m)
    rw [List.filter_cons, List.filter_cons]
    rcases List.mem_cons.mp m with rfl | m
    · rw [hp, hq]
      have := le hl
      simp
      omega
    · have ih := filt_lt hl m hp hq
      cases hx : P x
      · cases Q x <;> simp <;> omega
      · rw [h x (List.mem_cons_self ..) hx]; simp; omega
open Classical in
/-- a round: all settled, or one more -/
theorem round_more (o : EOk p E) (hb : ∀ x c, base x c → 0 ≤ x ∧ x < p) {f f' : Int → Option Int} (i : VInv E base f) (i' : VInv E base f') (d : Dec f f') (r : Rlx E f f') :
    (∀ z c, Vl E base z c → IsM E base z c → Fin' E base f z) ∨ cntF p E base f < cntF p E base f' := by
  by_cases cl : ∀ y z l d, IsM E base y d → f y = some d → Stp E y z l → IsM E base z (d + l) → Fin' E base f z
  · exact .inl fun z c v m => closed_all i cl v m
  · right
    simp only [Classical.not_forall] at cl
    obtain ⟨y, z, l, m, my, e, s, mz, nf⟩ := cl
    obtain ⟨c', e', l'⟩ := r y z l m s e
    have := mz.2 c' (i'.ok _ _ e')
    have : c' = m + l := by omega
    subst this
    have fz : Fin' E base f' z := ⟨_, mz, e'⟩
    have pz := s.pt o
    exact filt_lt (z := z) (fun x _ h => decide_eq_true (Fin'.mono i' d (of_decide_eq_true h))) (mem_rgI.mpr (by omega)) (decide_eq_false nf) (decide_eq_true fz)
open Classical in
/-- behind as many rounds as there are points all is settled -/
theorem rounds_all (o : EOk p E) (hb : ∀ x c, base x c → 0 ≤ x ∧ x < p) (F : Nat → Int → Option Int) (i : ∀ n, VInv E base (F n)) (d : ∀ n, Dec (F n) (F (n + 1))) (r : ∀ n, Rlx E (F n) (F (n + 1))) : ∀ z c, Vl E base z c → IsM E base z c → Fin' E base (F p.toNat) z := by
  have key : ∀ n, (∀ z c, Vl E base z c → IsM E base z c → Fin' E base (F n) z) ∨ n + 1 ≤ cntF p E base (F n) := by
    intro n
    induction n with
    | zero =>
      by_cases c0 : cntF p E base (F 0) = 0
      · left
        refine fun z c v m => closed_all (i 0) (fun y z l d my e s mz => ?_) v m
        exfalso
        have pz := s.pt o
        have : y ∈ (rgI 0 p).filter (fun x => decide (Fin' E base (F 0) x)) := List.mem_filter.mpr ⟨mem_rgI.mpr (by omega), decide_eq_true ⟨d, my, e⟩⟩
        have := List.length_pos_of_mem this
        unfold cntF at c0
        omega
      · right; omega
    | succ n ih =>
      rcases ih with h | h
      · exact .inl fun z c v m => (h z c v m).mono (i (n + 1)) (d n)
      · rcases round_more o hb (i n) (i (n + 1)) (d n) (r n) with q | q
        · exact .inl fun z c v m => (q z c v m).mono (i (n + 1)) (d n)
        · right; omega
  rcases key p.toNat with h | h
  · exact h
  · have : cntF p E base (F p.toNat) ≤ p.toNat := by
      unfold cntF
      have := List.length_filter_le (fun x => decide (Fin' E base (F p.toNat) x)) (rgI 0 p)
      rw [rgI_len] at this
      omega
    omega
end
/-- the roads gone through, each relaxing both ways -/
theorem fold_rlx {S : Type} {E : List Ed} (v : S → Int → Option Int) (I : S → Prop) (stp : S → Ed → S)
    (h : ∀ s, I s → ∀ e ∈ E, I (stp s e) ∧ Dec (v s) (v (stp s e)) ∧ (∀ c, v s e.1 = some c → ∃ c', v (stp s e) e.2.1 = some c' ∧ c' ≤ c + e.2.2) ∧ (∀ c, v s e.2.1 = some c → ∃ c', v (stp s e) e.1 = some c' ∧ c' ≤ c + e.2.2)) {s : S} (i : I s) :
    I (E.foldl stp s) ∧ Dec (v s) (v (E.foldl stp s)) ∧ Rlx E (v s) (v (E.foldl stp s)) := by
  have key : ∀ (Q : List Ed), (∀ e ∈ Q, e ∈ E) → ∀ s, I s → I (Q.foldl stp s) ∧ Dec (v s) (v (Q.foldl stp s)) ∧ ∀ e ∈ Q, (∀ c, v s e.1 = some c → ∃ c', v (Q.foldl stp s) e.2.1 = some c' ∧ c' ≤ c + e.2.2) ∧ (∀ c, v s e.2.1 = some c → ∃ c', v (Q.foldl stp s) e.1 = some c' ∧ c' ≤ c + e.2.2) := by
    intro Q
    induction Q with
    | nil => intro _ s i; exact ⟨i, Dec.refl _, by simp⟩
    | cons q Q ih =>
      intro hq s i
      obtain ⟨i1, d1, a1, b1⟩ := h s i q (hq q (List.mem_cons_self ..))
      obtain ⟨i2, d2, r2⟩ := ih (fun e m => hq e (List.mem_cons_of_mem _ m)) _ i1
      rw [List.foldl_cons]
      refine ⟨i2, d1.trans d2, fun e m => ?_⟩
      rcases List.mem_cons.mp m with rfl | m
      · constructor
        · intro c hc
          obtain ⟨c1, e1, l1⟩ := a1 c hc
          obtain ⟨c2, e2, l2⟩ := d2 _ _ e1
          exact ⟨c2, e2, by omega⟩
        · intro c hc
          obtain ⟨c1, e1, l1⟩ := b1 c hc
          obtain ⟨c2, e2, l2⟩ := d2 _ _ e1
          exact ⟨c2, e2, by omega⟩
      · obtain ⟨a2, b2⟩ := r2 e m
        constructor
        · intro c hc
          obtain ⟨c1, e1, l1⟩ := d1 _ _ hc
          obtain ⟨c2, e2, l2⟩ := a2 c1 e1
          exact ⟨c2, e2, by omega⟩
        · intro c hc
          obtain ⟨c1, e1, l1⟩ := d1 _ _ hc
          obtain ⟨c2, e2, l2⟩ := b2 c1 e1
          exact ⟨c2, e2, by omega⟩
  obtain ⟨a, b, c⟩ := key E (fun e m => m) s i
  refine ⟨a, b, fun y z l w st hw => ?_⟩
  rcases st with m | m
  · exact (c _ m).1 w hw
  · exact (c _ m).2 w hw
/-! ### a dict of least sums -/
def lkA (k : Int) : List (Int × Int) → Option Int
  | [] => none
  | q :: f => if q.1 == k then some q.2 else lkA k f
def putA (k v : Int) (f : List (Int × Int)) : List (Int × Int) := if f.any (fun q => q.1 == k) then f.map (fun q => if q.1 == k then (q.1, v) else q) else f ++ [(k, v)]
theorem lkA_none {k : Int} : ∀ {f : List (Int × Int)}, f.any (fun q => q.1 == k) = false ↔ lkA k f = none
  | [] => by simp [lkA]
  | q :: f => by
    rw [List.any_cons]
    unfold lkA
    cases h : q.1 == k
    · simpa using lkA_none (f := f)
    · simp
theorem lkA_put (k v x : Int) (f : List (Int × Int)) : lkA x (putA k v f) = if x = k then some v else lkA x f := by
  unfold putA
  split
  · rename_i h
    have key : ∀ f : List (Int × Int), lkA x (f.map fun q => if q.1 == k then (q.1, v) else q) = if x = k then (if f.any (fun q => q.1 == k) then some v else none) else lkA x f := by
      intro f
      induction f with
      | nil => simp [lkA]
      | cons q f ih =>
        rw [List.map_cons, List.any_cons]
        unfold lkA
        rw [ih]
        by_cases a : q.1 = k
        · by_cases b : x = k
          · subst b; simp [a]
          · have c : ¬ k = x := fun e => b e.symm
            simp [a, b, c]
        · have hb : (q.1 == k) = false := by simpa using a
          rw [hb]
          by_cases b : x = k
          · subst b
            simp only [hb, Bool.false_eq_true, if_false, if_true, Bool.false_or]
          · simp only [Bool.false_eq_true, if_false, b]
    rw [key, h]
    simp
  · rename_i h
    have h : f.any (fun q => q.1 == k) = false := by cases e : f.any (fun q => q.1 == k) with | false => rfl | true => exact (h e).elim
    have hn := lkA_none.mp h
    have key : ∀ f : List (Int × Int), lkA x (f ++ [(k, v)]) = match lkA x f with | some c => some c | none => if x = k then some v else none := by
      intro f
      induction f with
      | nil =>
        show (if (k == x) = true then some v else none) = if x = k then some v else none
        by_cases b : x = k
        · simp [b]
        · have : ¬ k = x := fun e => b e.symm
          simp [b, this]
      | cons q f ih =>
        show (if (q.1 == x) = true then some q.2 else lkA x (f ++ [(k, v)])) = _
        rw [ih]
        show _ = match (if (q.1 == x) = true then some q.2 else lkA x f) with | some c => some c | none => _
        cases q.1 == x <;> simp
    rw [key]
    by_cases b : x = k
    · subst b; rw [hn, if_pos rfl]
    · cases lkA x f <;> simp [b]
theorem putA_len (k v : Int) (f : List (Int × Int)) : (putA k v f).length ≤ f.length + 1 := by
  unfold putA
  split <;> simp
def rlx (f : List (Int × Int)) (h t l : Int) : List (Int × Int) := match lkA h f with
  | none => f
  | some c => if c + l < (lkA t f).getD (c + l + 1) then putA t (c + l) f else f
def rlxE (f : List (Int × Int)) (e : Ed) : List (Int × Int) := rlx (rlx f e.1 e.2.1 e.2.2) e.2.1 e.1 e.2.2
theorem rlx_ok {E : List Ed} {base : Int → Int → Prop} {f : List (Int × Int)} (i : VInv E base fun x => lkA x f) {h t l : Int} (st : Stp E h t l) : VInv E base (fun x => lkA x (rlx f h t l)) ∧ Dec (fun x => lkA x f) (fun x => lkA x (rlx f h t l)) ∧ ∀ c, lkA h f = some c → ∃ c', lkA t (rlx f h t l) = some c' ∧ c' ≤ c + l := by
  unfold rlx
  cases e : lkA h f with
  | none => exact ⟨i, Dec.refl _, by simp⟩
  | some c =>
    simp only
    split
    · rename_i lt
      have dec : Dec (fun x => lkA x f) (fun x => lkA x (putA t (c + l) f)) := fun x c' e' => by
        simp only [lkA_put] at *
        by_cases a : x = t
        · subst a
          rw [e'] at lt
          exact ⟨c + l, by simp, by simp at lt; omega⟩
        · exact ⟨c', by simp [a, e'], Int.le_refl _⟩
      refine ⟨⟨fun x c' e' => ?_, fun x c' b => ?_⟩, dec, fun c' e' => ?_⟩
      · simp only [lkA_put] at e'
        by_cases a : x = t
        · subst a
          simp at e'
          subst e'
          exact .st (i.ok h c e) st
        · simp [a] at e'
          exact i.ok x c' e'
      · obtain ⟨c1, e1, l1⟩ := i.bs x c' b
        obtain ⟨c2, e2, l2⟩ := dec x c1 e1
        exact ⟨c2, e2, by omega⟩
      · cases e'
        exact ⟨c + l, by simp [lkA_put], Int.le_refl _⟩
    · rename_i ge
      refine ⟨i, Dec.refl _, fun c' e' => ?_⟩
      cases e'
      cases q : lkA t f with
      | none => rw [q] at ge; simp at ge; omega
      | some c'' => rw [q] at ge; simp at ge; exact ⟨c'', rfl, ge⟩
theorem rlxE_ok {E : List Ed} {base : Int → Int → Prop} (f : List (Int × Int)) (i : VInv E base fun x => lkA x f) (e : Ed) (m : e ∈ E) : VInv E base (fun x => lkA x (rlxE f e)) ∧ Dec (fun x => lkA x f) (fun x => lkA x (rlxE f e)) ∧ (∀ c, lkA e.1 f = some c → ∃ c', lkA e.2.1 (rlxE f e) = some c' ∧ c' ≤ c + e.2.2) ∧ (∀ c, lkA e.2.1 f = some c → ∃ c', lkA e.1 (rlxE f e) = some c' ∧ c' ≤ c + e.2.2) := by
  have s1 : Stp E e.1 e.2.1 e.2.2 := .inl m
  obtain ⟨i1, d1, r1⟩ := rlx_ok i s1
  obtain ⟨i2, d2, r2⟩ := rlx_ok i1 s1.symm
  refine ⟨i2, d1.trans d2, fun c h => ?_, fun c h => ?_⟩
  · obtain ⟨c1, e1, l1⟩ := r1 c h
    obtain ⟨c2, e2, l2⟩ := d2 _ _ e1
    exact ⟨c2, e2, by omega⟩
  · obtain ⟨c1, e1, l1⟩ := d1 _ _ h
    obtain ⟨c2, e2, l2⟩ := r2 c1 e1
    exact ⟨c2, e2, by omega⟩
theorem rlx_len (f : List (Int × Int)) (h t l : Int) : (rlx f h t l).length ≤ f.length + 1 := by
  unfold rlx
  split
  · omega
  · split
    · exact putA_len _ _ _
    · omega
def itA (E : List Ed) : Nat → List (Int × Int) → List (Int × Int)
  | 0, f => f
  | n + 1, f => E.foldl rlxE (itA E n f)
theorem Vl_Wk {E : List Ed} {s x c : Int} : Vl E (fun x c => x = s ∧ c = 0) x c ↔ Wk E s x c := by
  constructor
  · intro h
    induction h with
    | b h => obtain ⟨rfl, rfl⟩ := h; exact .nil
    | st _ st ih => exact .snoc ih st
  · intro h
    induction h with
    | nil => exact .b ⟨rfl, rfl⟩
    | snoc _ st ih => exact .st ih st
/-- behind the rounds the dict tells the distances -/
theorem itA_dst {p : Int} {E : List Ed} (o : EOk p E) {s : Int} (hs : 0 ≤ s ∧ s < p) (z : Int) : (lkA z (itA E p.toNat [(s, 0)])).getD 0 = dst E s z := by
  have i0 : VInv E (fun x c => x = s ∧ c = 0) (fun x => lkA x [(s, 0)]) := by
    refine ⟨fun x c e => ?_, fun x c b => ?_⟩
    · have : (if s == x then some 0 else none) = some c := e
      by_cases a : s = x
      · subst a; simp at this; subst this; exact .b ⟨rfl, rfl⟩
      · simp [a] at this
    · obtain ⟨rfl, rfl⟩ := b
      exact ⟨0, by simp [lkA], Int.le_refl _⟩
  have fr := fun (f : List (Int × Int)) (i : VInv E (fun x c => x = s ∧ c = 0) fun x => lkA x f) => fold_rlx (E := E) (fun f x => lkA x f) (fun f => VInv E (fun x c => x = s ∧ c = 0) fun x => lkA x f) rlxE (fun f i e m => rlxE_ok f i e m) (s := f) i
  have inv : ∀ n, VInv E (fun x c => x = s ∧ c = 0) (fun x => lkA x (itA E n [(s, 0)])) := fun n => by
    induction n with
    | zero => exact i0
    | succ n ih => exact (fr _ ih).1
  have all := rounds_all o (base := fun x c => x = s ∧ c = 0) (fun x c h => by obtain ⟨rfl, -⟩ := h; exact hs) (fun n x => lkA x (itA E n [(s, 0)])) inv (fun n => (fr _ (inv n)).2.1) (fun n => (fr _ (inv n)).2.2)
  by_cases h : ∃ c, Wk E s z c
  · obtain ⟨c, w⟩ := h
    obtain ⟨d, hd⟩ := isD_ex o w
    have m : IsM E (fun x c => x = s ∧ c = 0) z d := ⟨Vl_Wk.mpr hd.1, fun c v => hd.2 c (Vl_Wk.mp v)⟩
    obtain ⟨d', hd', e⟩ := all z d m.1 m
    have : d' = d := Int.le_antisymm (hd'.2 _ m.1) (m.2 _ hd'.1)
    subst this
    have e : lkA z (itA E p.toNat [(s, 0)]) = some d' := e
    rw [e, dst_of hd]
    rfl
  · rw [dst_no fun c w => h ⟨c, w⟩]
    cases e : lkA z (itA E p.toNat [(s, 0)]) with
    | none => rfl
    | some c => exact (h ⟨c, Vl_Wk.mp ((inv p.toNat).ok z c e)⟩).elim
theorem foldE_len (E : List Ed) : ∀ f : List (Int × Int), (E.foldl rlxE f).length ≤ f.length + 2 * E.length := by
  induction E with
  | nil => intro f; simp
  | cons e E ih =>
    intro f
    rw [List.foldl_cons]
    have a := ih (rlxE f e)
    have b := rlx_len (rlx f e.1 e.2.1 e.2.2) e.2.1 e.1 e.2.2
    have c := rlx_len f e.1 e.2.1 e.2.2
    have : (rlxE f e).length ≤ f.length + 2 := by unfold rlxE; omega
    rw [List.length_cons]
    omega
theorem itA_len (E : List Ed) (f : List (Int × Int)) : ∀ n, (itA E n f).length ≤ f.length + n * (2 * E.length)
  | 0 => by simp [itA]
  | n + 1 => by
    have a := itA_len E f n
    have b := foldE_len E (itA E n f)
    show (E.foldl rlxE (itA E n f)).length ≤ _
    rw [Nat.succ_mul]
    omega
/-! ### a row of least sums -/
def stR (L : List Int) (e : Ed) : List Int :=
  let L1 := L.set e.1.toNat (min (at' L e.1) (at' L e.2.1 + e.2.2))
  L1.set e.2.1.toNat (min (at' L1 e.2.1) (at' L1 e.1 + e.2.2))
def itRw (E : List Ed) : Nat → List Int → List Int
  | 0, L => L
  | n + 1, L => E.foldl stR (itRw E n L)
def vR (p : Int) (L : List Int) (x : Int) : Option Int := if 0 ≤ x ∧ x < p then some (at' L x) else none
theorem stR_len (L : List Int) (e : Ed) : (stR L e).length = L.length := by simp [stR]
theorem stR_ok {p : Int} {E : List Ed} (o : EOk p E) {base : Int → Int → Prop} (L : List Int) (i : (L.length : Int) = p ∧ VInv E base (vR p L)) (e : Ed) (m : e ∈ E) : (((stR L e).length : Int) = p ∧ VInv E base (vR p (stR L e))) ∧ Dec (vR p L) (vR p (stR L e)) ∧ (∀ c, vR p L e.1 = some c → ∃ c', vR p (stR L e) e.2.1 = some c' ∧ c' ≤ c + e.2.2) ∧ (∀ c, vR p L e.2.1 = some c → ∃ c', vR p (stR L e) e.1 = some c' ∧ c' ≤ c + e.2.2) := by
  obtain ⟨ln, i⟩ := i
  have pt := o.pt e m
  have nn := o.nn e m
  have at2 : ∀ x, 0 ≤ x → at' (stR L e) x = if x = e.2.1 then min (at' L e.2.1) (min (at' L e.1) (at' L e.2.1 + e.2.2) + e.2.2) else if x = e.1 then min (at' L e.1) (at' L e.2.1 + e.2.2) else at' L x := fun x x0 => by
    unfold stR
    simp only
    rw [at_set _ _ _ _ (by omega) (by rw [List.length_set]; omega) x0, at_set _ _ _ _ (by omega) (by omega) x0, at_set _ _ _ _ (by omega) (by omega) (by omega), at_set _ _ _ _ (by omega) (by omega) (by omega)]
    have : ¬ e.2.1 = e.1 := by omega
    simp [this]
  have s1 : Stp E e.1 e.2.1 e.2.2 := .inl m
  have va : Vl E base e.1 (at' L e.1) := i.ok _ _ (by unfold vR; rw [if_pos (by omega)])
  have vb : Vl E base e.2.1 (at' L e.2.1) := i.ok _ _ (by unfold vR; rw [if_pos (by omega)])
  have dec : Dec (vR p L) (vR p (stR L e)) := fun x c h => by
    unfold vR at h ⊢
    split at h
    · rename_i hx
      injection h with h
      subst h
      rw [if_pos hx]
      refine ⟨_, rfl, ?_⟩
      rw [at2 x hx.1]
      split
      · rename_i q; subst q; omega
      · split
        · rename_i q; subst q; omega
        · omega
    · cases h
  have v1 : Vl E base e.1 (min (at' L e.1) (at' L e.2.1 + e.2.2)) := by
    rcases Int.le_total (at' L e.1) (at' L e.2.1 + e.2.2) with q | q
    · rw [Int.min_eq_left q]; exact va
    · rw [Int.min_eq_right q]; exact .st vb s1.symm
  refine ⟨⟨by rw [stR_len]; exact ln, fun x c h => ?_, fun x c b => ?_⟩, dec, fun c h => ?_, fun c h => ?_⟩
  · unfold vR at h
    split at h
    · rename_i hx
      injection h with h
      subst h
      rw [at2 x hx.1]
      split
      · rename_i q
        subst q
        rcases Int.le_total (at' L e.2.1) (min (at' L e.1) (at' L e.2.1 + e.2.2) + e.2.2) with q | q
        · rw [Int.min_eq_left q]; exact vb
        · rw [Int.min_eq_right q]; exact .st v1 s1
      · split
        · rename_i q; subst q; exact v1
        · exact i.ok _ _ (by unfold vR; rw [if_pos hx])
    · cases h
  · obtain ⟨c1, e1, l1⟩ := i.bs x c b
    obtain ⟨c2, e2, l2⟩ := dec x c1 e1
    exact ⟨c2, e2, by omega⟩
  · unfold vR at h ⊢
    rw [if_pos (by omega)] at h
    injection h with h
    subst h
    rw [if_pos (by omega)]
    refine ⟨_, rfl, ?_⟩
    rw [at2 _ (by omega), if_pos rfl]
    omega
  · unfold vR at h ⊢
    rw [if_pos (by omega)] at h
    injection h with h
    subst h
    rw [if_pos (by omega)]
    refine ⟨_, rfl, ?_⟩
    rw [at2 _ (by omega), if_neg (by omega), if_pos rfl]
    omega
/-- behind the rounds no road's ends differ by more than its length -/
theorem itRw_rise {p : Int} {E : List Ed} (o : EOk p E) {L : List Int} (hl : (L.length : Int) = p) : ((itRw E p.toNat L).length : Int) = p ∧ ∀ e ∈ E, (at' (itRw E p.toNat L) e.1 - at' (itRw E p.toNat L) e.2.1).natAbs ≤ e.2.2 := by
  let base : Int → Int → Prop := fun x c => 0 ≤ x ∧ x < p ∧ c = at' L x
  have i0 : (L.length : Int) = p ∧ VInv E base (vR p L) := by
    refine ⟨hl, fun x c e => ?_, fun x c b => ?_⟩
    · unfold vR at e
      split at e
      · rename_i hx; injection e with e; exact .b ⟨hx.1, hx.2, e.symm⟩
      · cases e
    · obtain ⟨a, b, rfl⟩ := b
      exact ⟨_, by unfold vR; rw [if_pos ⟨a, b⟩], Int.le_refl _⟩
  have fr := fun (L : List Int) (i : (L.length : Int) = p ∧ VInv E base (vR p L)) => fold_rlx (E := E) (fun L x => vR p L x) (fun L => (L.length : Int) = p ∧ VInv E base (vR p L)) stR (fun L i e m => stR_ok o L i e m) (s := L) i
  have inv : ∀ n, ((itRw E n L).length : Int) = p ∧ VInv E base (vR p (itRw E n L)) := fun n => by
    induction n with
    | zero => exact i0
    | succ n ih => exact (fr _ ih).1
  have all := rounds_all o (base := base) (fun x c h => ⟨h.1, h.2.1⟩) (fun n x => vR p (itRw E n L) x) (fun n => (inv n).2) (fun n => (fr _ (inv n)).2.1) (fun n => (fr _ (inv n)).2.2)
  refine ⟨(inv _).1, ?_⟩
  -- bounded below, so least sums exist
  obtain ⟨B, hB⟩ : ∃ B : Int, ∀ x, 0 ≤ x → x < p → B ≤ at' L x := by
    refine ⟨minI L, fun x x0 x1 => minI_le (at_mem x0 (by omega))⟩
  have low : ∀ {x c}, Vl E base x c → B ≤ c := by
    intro x c v
    induction v with
    | b h => obtain ⟨a, b, rfl⟩ := h; exact hB _ a b
    | st _ st ih => have := st.pt o; omega
  have ex : ∀ {x c}, Vl E base x c → ∃ d, IsM E base x d := by
    intro x c v
    obtain ⟨m, a, b, -, e⟩ := least_ex (P := fun k => Vl E base x (k + B)) (x := c - B) (by have := low v; omega) (by rw [show c - B + B = c by omega]; exact v)
    refine ⟨m + B, a, fun c' v' => ?_⟩
    have := e (c' - B) (by rw [show c' - B + B = c' by omega]; exact v') (by have := low v'; omega)
    omega
  have fin : ∀ x, 0 ≤ x → x < p → IsM E base x (at' (itRw E p.toNat L) x) := fun x x0 x1 => by
    obtain ⟨d, hd⟩ := ex (.b (base := base) (E := E) ⟨x0, x1, rfl⟩)
    obtain ⟨d', hd', e⟩ := all x d hd.1 hd
    have : vR p (itRw E p.toNat L) x = some d' := e
    unfold vR at this
    rw [if_pos ⟨x0, x1⟩] at this
    injection this with this
    rw [this]
    exact hd'
  intro e m
  have pt := o.pt e m
  have a := fin e.1 (by omega) (by omega)
  have b := fin e.2.1 (by omega) (by omega)
  have s1 : Stp E e.1 e.2.1 e.2.2 := .inl m
  have h1 := b.2 _ (.st a.1 s1)
  have h2 := a.2 _ (.st b.1 s1.symm)
  omega
/-- a rise grows by no more than the distance -/
theorem rise_dst {p : Int} {E : List Ed} (o : EOk p E) {f : Int → Int} (hf : ∀ e ∈ E, (f e.1 - f e.2.1).natAbs ≤ e.2.2) {s z c : Int} (w : Wk E s z c) : f z - f s ≤ dst E s z := by
  have key : ∀ {z c}, Wk E s z c → f z - f s ≤ c := by
    intro z c w
    induction w with
    | nil => omega
    | snoc _ st ih =>
      rcases st with m | m
      · have := hf _ m; simp only at this; omega
      · have := hf _ m; simp only at this; omega
  obtain ⟨d, hd⟩ := isD_ex o w
  rw [dst_of hd]
  exact key hd.1
end Rw
namespace Rw
/-! ### the roads with their lengths; dicts in the heap -/
def edg (rs : List (Int × Int × Int)) (ls : List Int) : List Ed := (rs.zip ls).map fun q => (q.1.1, q.1.2.1, q.2)
theorem edg_ok {p m : Int} {rs : List (Int × Int × Int)} {ls : List Int} (g : areLks p rs m = true) (l0 : ∀ x ∈ ls, 0 ≤ x) : EOk p (edg rs ls) := by
  obtain ⟨-, b, c⟩ := areLks_iff.mp g
  refine ⟨fun e m => ?_, fun e m => ?_, ?_⟩
  · obtain ⟨q, hq, rfl⟩ := List.mem_map.mp m
    have := isLk_lt (b _ (List.of_mem_zip hq).1)
    simp only
    omega
  · obtain ⟨q, hq, rfl⟩ := List.mem_map.mp m
    exact l0 _ (List.of_mem_zip hq).2
  · unfold edg
    rw [List.pairwise_map]
    have : (rs.zip ls).Pairwise fun a b => prLt a.1 b.1 = true := by
      clear b g
      induction rs generalizing ls with
      | nil => simp
      | cons r rs ih =>
        cases ls with
        | nil => simp
        | cons l ls =>
          obtain ⟨c1, c2⟩ := List.pairwise_cons.mp c
          rw [List.zip_cons_cons, List.pairwise_cons]
          exact ⟨fun a m => c1 _ (List.of_mem_zip m).1, ih (fun x m => l0 x (List.mem_cons_of_mem _ m)) c2⟩
    refine this.imp fun {a b} h e => ?_
    simp only [prLt, Bool.or_eq_true, Bool.and_eq_true, decide_eq_true_eq, beq_iff_eq] at h
    simp only at e
    omega
def dm (f : List (Int × Int)) : List (Int × D) := f.map fun q => (q.1, .int q.2)
theorem lookI_dm (k : Int) : ∀ f : List (Int × Int), lookI k (dm f) = (lkA k f).map .int
  | [] => rfl
  | q :: f => by
    show (if (q.1 == k) = true then some (D.int q.2) else lookI k (dm f)) = _
    rw [lookI_dm k f]
    show _ = (if (q.1 == k) = true then some q.2 else lkA k f).map _
    cases q.1 == k <;> rfl
theorem putI_dm (k v : Int) (f : List (Int × Int)) : putI k (.int v) (dm f) = dm (putA k v f) := by
  unfold putI putA dm
  rw [List.any_map]
  have : ((fun p : Int × D => p.1 == k) ∘ fun q : Int × Int => (q.1, D.int q.2)) = fun q => q.1 == k := rfl
  rw [this]
  split
  · rw [List.map_map, List.map_map]
    apply List.map_congr_left
    intro q _
    show (if (q.1 == k) = true then (q.1, D.int v) else (q.1, D.int q.2)) = (_, _)
    cases h : q.1 == k <;> simp [h]
  · simp
abbrev hD (h : AH) (f : List (Int × Int)) : AH := ⟨h.os ++ [.dI (dm f)], h.fl⟩
theorem hD_at (h : AH) (f : List (Int × Int)) : (hD h f).os[h.os.length]? = some (.dI (dm f)) := by simp
section
variable {h1 : AH} {n : Nat} {f : List (Int × Int)}
theorem in_dI' (e : h1.os[n]? = some (.dI (dm f))) (x : Int) : inEv h1 (.int x) (.ref n) = some (lkA x f).isSome := by
  simp only [inEv, e, keyI, Option.map_some, lookI_dm]
  cases lkA x f <;> rfl
theorem ix_dI' (e : h1.os[n]? = some (.dI (dm f))) {x c : Int} (q : lkA x f = some c) : ixEv h1 (.ref n) (.int x) = some (.int c, false) := by
  simp only [ixEv, ddOf, e, ddLook, keyI, Option.map_some, lookI_dm, q, Option.bind_some]
theorem mt_dI' (e : h1.os[n]? = some (.dI (dm f))) : meTy .get h1 (.ref n) = true := by
  simp only [meTy, ddOf, e, Option.isSome]
theorem me_dI' (e : h1.os[n]? = some (.dI (dm f))) (x k : Int) : meEv .get h1 (.ref n) [.int x, .int k] = .ok (.int ((lkA x f).getD k), false) h1 := by
  simp only [meEv, ddOf, e, ddLook, keyI, Option.map_some, lookI_dm]
  cases lkA x f <;> rfl
theorem set_dI' (e : h1.os[n]? = some (.dI (dm f))) (hl : f.length ≤ 1000) (x v : Int) : setEv h1 (.ref n) (.int x) (.int v) = some (h1.put n (.dI (dm (putA x v f))) 0) := by
  have : (dm f).length < LN := by unfold dm; rw [List.length_map]; show _ < 1000000; omega
  simp only [setEv, e, keyI, Option.bind_some, if_pos this, putI_dm]
  rfl
end
theorem in_dI (h : AH) (f : List (Int × Int)) (x : Int) : inEv (hD h f) (.int x) (.ref h.os.length) = some (lkA x f).isSome := in_dI' (hD_at h f) x
theorem ix_dI (h : AH) {f : List (Int × Int)} {x c : Int} (e : lkA x f = some c) : ixEv (hD h f) (.ref h.os.length) (.int x) = some (.int c, false) := ix_dI' (hD_at h f) e
theorem mt_dI (h : AH) (f : List (Int × Int)) : meTy .get (hD h f) (.ref h.os.length) = true := mt_dI' (hD_at h f)
theorem me_dI (h : AH) (f : List (Int × Int)) (x k : Int) : meEv .get (hD h f) (.ref h.os.length) [.int x, .int k] = .ok (.int ((lkA x f).getD k), false) (hD h f) := me_dI' (hD_at h f) x k
theorem set_dI (h : AH) {f : List (Int × Int)} (hl : f.length ≤ 1000) (x v : Int) : setEv (hD h f) (.ref h.os.length) (.int x) (.int v) = some (hD h (putA x v f)) := by
  rw [set_dI' (hD_at h f) hl]
  simp [AH.put]
theorem leave_D {h : AH} {f : List (Int × Int)} {d : D} {b : Bool} (hf : h.fl ≤ h.os.length) (e : d.top = 0) : leave h.os.length d b (hD h f) = .ok (d, b) h := by
  rw [leave_take (h := hD h f) hf e]
  congr 1
  obtain ⟨os, fl⟩ := h
  simp
end Rw
end

section
set_option Elab.async false
set_option linter.all false
set_option maxRecDepth 100000
set_option maxHeartbeats 4000000
/-! RfB9: drawn lists (pop), sorted pairs and rows. -/
namespace Rw
theorem erase_perm {α : Type} : ∀ (l : List α) (k : Nat) (h : k < l.length), (l[k] :: l.eraseIdx k).Perm l
  | x :: l, 0, _ => List.Perm.refl _
  | x :: l, k + 1, h => by
    have ih := erase_perm l k (by simpa using h)
    show (l[k]'(by simpa using h) :: x :: l.eraseIdx k).Perm (x :: l)
    exact (List.Perm.swap _ _ _).trans (List.Perm.cons x ih)
/-- some of the items are popped one after another: none twice, all of them items -/
structure Pops {α : Type} (all left got : List α) : Prop where
  nd : (got ++ left).Nodup
  sub : ∀ x ∈ got ++ left, x ∈ all
theorem Pops.step {α : Type} [Inhabited α] {all left got : List α} (i : Pops all left got) {v : Int} (v0 : 0 ≤ v) (v1 : v < left.length) : Pops all (left.eraseIdx v.toNat) (got ++ [at' left v]) := by
  have z : v.toNat < left.length := by omega
  have e : at' left v = left[v.toNat] := by simp [at', List.getD, z]
  have p : (left[v.toNat] :: left.eraseIdx v.toNat).Perm left := erase_perm left v.toNat z
  have q : (got ++ [at' left v] ++ left.eraseIdx v.toNat).Perm (got ++ left) := by
    rw [List.append_assoc, e]
    exact List.Perm.append_left got p
  exact ⟨q.nodup_iff.mpr i.nd, fun x m => i.sub x (q.mem_iff.mp m)⟩
theorem me_pop {α : Type} [Inhabited α] {h : AH} {n : Nat} {f : α → D} {xs : List α} (e : h.os[n]? = some (.lst (xs.map f))) {v : Int} (v0 : 0 ≤ v) (v1 : v < xs.length) : meEv .popAt h (.ref n) [.int v] = .ok (f (at' xs v), false) (h.put n (.lst ((xs.eraseIdx v.toNat).map f)) 0) := by
  have e2 : ixOf xs.length v = some v.toNat := ixOf_at v0 v1
  have z : v.toNat < xs.length := by omega
  have e3 : at' xs v = xs[v.toNat] := by simp [at', List.getD, z]
  have er : ∀ (l : List α) (k : Nat), (l.map f).eraseIdx k = (l.eraseIdx k).map f := by
    intro l
    induction l with
    | nil => intro k; simp
    | cons x l ih =>
      intro k
      cases k with
      | zero => rfl
      | succ k => simp [ih k]
  simp only [meEv, e, List.length_map, e2, List.getElem?_map, List.getElem?_eq_getElem z, Option.map_some, e3, er]
/-- sorted rows of ints -/
def ltL (a b : List Int) : Bool := dlt (tint a) (tint b)
theorem sortable_tints (fs : List (List Int)) : sortable (fs.map tint) = true := by
  simp [sortable, tys, Ty.has]
theorem bi_sortT (h : AH) {xs : List (List Int)} (hl : xs.length ≤ LN) : biEv .sorted h [.lst (xs.map tint)] = some (.lst ((srtB ltL xs).map tint), true) := by
  have l : decide ((xs.map tint).length ≤ LN) = true := by simpa using hl
  have e : dsort (xs.map tint) = (srtB ltL xs).map tint := dsort_map fun _ _ _ _ => rfl
  simp only [biEv, stems, litems, Option.bind_some, sortable_tints, l, Bool.and_self, if_true, e]
/-- ascending pairs with numbers are links -/
theorem pairs_lks {p m g : Int} {ps : List (Int × Int)} (h : ps.Nodup) (hp : ∀ q ∈ ps, 0 ≤ q.1 ∧ q.1 < q.2 ∧ q.2 < p) {ws : List Int} (l : ws.length = ps.length) (hw : ∀ w ∈ ws, 1 ≤ w ∧ w ≤ g) (hg : g ≤ 6) (hm : (ps.length : Int) ≤ m) : areLks p (((srtB ltP ps).zip ws).map fun q => (q.1.1, q.1.2, q.2)) m = true := by
  rw [areLks_iff]
  refine ⟨?_, fun r hr => ?_, ?_⟩
  · rw [List.length_map, List.length_zip, srtB_len]
    omega
  · obtain ⟨q, hq, rfl⟩ := List.mem_map.mp hr
    have a := hp _ (mem_srtB.mp (List.of_mem_zip hq).1)
    have b := hw _ (List.of_mem_zip hq).2
    simp only [isLk, Bool.and_eq_true, decide_eq_true_eq]
    refine ⟨⟨⟨⟨⟨⟨?_, ?_⟩, ?_⟩, ?_⟩, ?_⟩, ?_⟩, ?_⟩ <;> omega
  · rw [List.pairwise_map]
    have pw := srtB_pw ltP_ok h
    clear l hw h hm hp
    generalize srtB ltP ps = xs at *
    induction xs generalizing ws with
    | nil => simp
    | cons x xs ih =>
      cases ws with
      | nil => simp
      | cons w ws =>
        obtain ⟨c1, c2⟩ := List.pairwise_cons.mp pw
        rw [List.zip_cons_cons, List.pairwise_cons]
        refine ⟨fun a ha => ?_, ih c2⟩
        have := c1 _ (List.of_mem_zip ha).1
        simp only [ltP, prLt] at *
        exact this
/-- turns of a comprehension that draw, whatever the heap -/
theorem lc_stG {β : Type} {body : D → AH → R (Option β)} (H : St → List β → AH) (Q : List β → Prop) : ∀ (xs : List D) (s : St) (acc : List β), Q acc →
    (∀ x ∈ xs, ∀ s acc, Q acc → ∃ y s', body x (H s acc) = .ok (some y) (H s' (acc ++ [y])) ∧ Q (acc ++ [y])) →
    ∃ (ys : List β) (s' : St), ys.length = xs.length ∧ lcEv body xs (H s acc) = .ok ys (H s' (acc ++ ys)) ∧ Q (acc ++ ys)
  | [], s, acc, q, _ => ⟨[], s, rfl, by rw [List.append_nil]; rfl, by rw [List.append_nil]; exact q⟩
  | x :: xs, s, acc, q, st => by
    obtain ⟨y, s1, e1, q1⟩ := st x (List.mem_cons_self ..) s acc q
    obtain ⟨ys, s2, l2, e2, q2⟩ := lc_stG H Q xs s1 (acc ++ [y]) q1 (fun z hz => st z (List.mem_cons_of_mem _ hz))
    refine ⟨y :: ys, s2, by simp [l2], ?_, by rw [List.append_assoc] at q2; exact q2⟩
    unfold lcEv
    rw [e1, b_ok, e2, b_ok, List.append_assoc]
    rfl
/-- some numbers drawn, one for each item -/
theorem lc_nums {body : D → AH → R (Option D)} {os : List Ob} {fl : Nat} (P : Int → Prop) (xs : List D) (s : St) (st : ∀ x ∈ xs, ∀ s, ∃ (v : Int) (s' : St), P v ∧ body x (hU s os fl) = .ok (some (.int v)) (hU s' os fl)) :
    ∃ (ys : List Int) (s' : St), ys.length = xs.length ∧ (∀ y ∈ ys, P y) ∧ lcEv body xs (hU s os fl) = .ok (ys.map .int) (hU s' os fl) := by
  obtain ⟨ys, s', l, e, hq⟩ := lc_stG (body := body) (fun s _ => hU s os fl) (fun acc => ∃ zs : List Int, acc = zs.map .int ∧ ∀ z ∈ zs, P z) xs s [] ⟨[], rfl, by simp⟩ (by
    rintro x hx s acc ⟨zs, rfl, hz⟩
    obtain ⟨v, s', pv, e⟩ := st x hx s
    refine ⟨_, s', e, zs ++ [v], by simp, fun z m => ?_⟩
    rcases List.mem_append.mp m with m | m
    · exact hz z m
    · rw [List.mem_singleton] at m; subst m; exact pv)
  obtain ⟨zs, ez, hz⟩ := hq
  rw [List.nil_append] at ez
  subst ez
  exact ⟨zs, s', by simpa using l, hz, e⟩
end Rw
namespace Rw
theorem rgI_shift (a b : Int) : rgI (a + 1) (b + 1) = (rgI a b).map fun x => x + 1 := by
  unfold rgI
  rw [List.map_map, show b + 1 - (a + 1) = b - a by omega]
  apply List.map_congr_left
  intro i _
  show a + 1 + (i : Int) = a + i + 1
  omega
theorem at_cons {α : Type} [Inhabited α] (x : α) (xs : List α) {i : Int} (h : 0 ≤ i) : at' (x :: xs) (i + 1) = at' xs i := by
  have : (i + 1).toNat = i.toNat + 1 := by omega
  simp [at', List.getD, this]
theorem alg_rg : ∀ P : List Int, (rgI 0 ((P.length : Int) - 1)).map (fun k => (min (at' P k) (at' P (k + 1)), max (at' P k) (at' P (k + 1)))) = alg P
  | [] => rfl
  | [x] => rfl
  | x :: y :: P => by
    have ih := alg_rg (y :: P)
    have e : (((x :: y :: P).length : Nat) : Int) - 1 = ((((y :: P).length : Nat) : Int) - 1) + 1 := by simp
    rw [e, rgI_cons (by simp), show (0 : Int) + 1 = 0 + 1 from rfl, rgI_shift, List.map_cons, List.map_map]
    show _ :: _ = (min x y, max x y) :: alg (y :: P)
    rw [← ih]
    congr 1
    apply List.map_congr_left
    intro i hi
    have := (mem_rgI.mp hi).1
    show (min (at' (x :: y :: P) (i + 1)) (at' (x :: y :: P) (i + 1 + 1)), max _ _) = _
    rw [at_cons _ _ this, at_cons _ _ (show 0 ≤ i + 1 by omega)]
theorem nbr_edg {rs : List (Int × Int × Int)} {ls : List Int} (hl : ls.length = rs.length) (x : Int) : nbr (edg rs ls) x = nbr rs x := by
  unfold nbr edg
  induction rs generalizing ls with
  | nil => simp
  | cons r rs ih =>
    cases ls with
    | nil => simp at hl
    | cons l ls =>
      have ih := ih (ls := ls) (by simpa using hl)
      have h1 : ∀ (q : Int × Int × Int → Bool) (f : Int × Int × Int → Int), (∀ a b c c', q (a, b, c) = q (a, b, c')) → (∀ a b c c', f (a, b, c) = f (a, b, c')) → ∀ (rs : List (Int × Int × Int)) (ls : List Int), ls.length = rs.length → ((((rs.zip ls).map fun z => (z.1.1, z.1.2.1, z.2)).filter q).map f) = (rs.filter q).map f := by
        intro q f hq hf rs
        induction rs with
        | nil => intro ls _; simp
        | cons r rs ih =>
          intro ls hl
          cases ls with
          | nil => simp at hl
          | cons l ls =>
            have := ih ls (by simpa using hl)
            rw [List.zip_cons_cons, List.map_cons, List.filter_cons, List.filter_cons, hq r.1 r.2.1 l r.2.2]
            split
            · rw [List.map_cons, List.map_cons, this, hf r.1 r.2.1 l r.2.2]
            · exact this
      rw [h1 (fun e => decide (e.1 = x)) (fun e => e.2.1) (fun _ _ _ _ => rfl) (fun _ _ _ _ => rfl) (r :: rs) (l :: ls) (by simpa using hl), h1 (fun e => decide (e.2.1 = x)) (fun e => e.1) (fun _ _ _ _ => rfl) (fun _ _ _ _ => rfl) (r :: rs) (l :: ls) (by simpa using hl)]
theorem rows_edg {rs : List (Int × Int × Int)} {ls : List Int} (hl : ls.length = rs.length) (s o : Int) : ∀ n, rowsN (edg rs ls) s o n = rowsN rs s o n
  | 0 => rfl
  | n + 1 => by
    show extR (edg rs ls) o (rowsN (edg rs ls) s o n) = extR rs o (rowsN rs s o n)
    rw [rows_edg hl s o n]
    unfold extR
    simp only [nbr_edg hl]
theorem fnd_edg {rs : List (Int × Int × Int)} {ls : List Int} (hl : ls.length = rs.length) (s o : Int) : ∀ n, fndN (edg rs ls) s o n = fndN rs s o n
  | 0 => rfl
  | n + 1 => by
    show fndN (edg rs ls) s o n ++ (rowsN (edg rs ls) s o (n + 1)).filter _ = _
    rw [fnd_edg hl s o n, rows_edg hl]
    rfl
theorem at_zip {α β : Type} [Inhabited α] [Inhabited β] {xs : List α} {ys : List β} {i : Int} (h0 : 0 ≤ i) (h1 : i < xs.length) (h2 : i < ys.length) : at' (xs.zip ys) i = (at' xs i, at' ys i) := by
  have a : i.toNat < xs.length := by omega
  have b : i.toNat < ys.length := by omega
  have z : i.toNat < (xs.zip ys).length := by rw [List.length_zip]; omega
  simp only [at', List.getD, List.getElem?_eq_getElem z, List.getElem?_eq_getElem a, List.getElem?_eq_getElem b, Option.getD_some, List.getElem_zip]
theorem pc_law {rs : List (Int × Int × Int)} {ls : List Int} (hl : ls.length = rs.length) (P : List Int) : (((rgI 0 ls.length).filter fun k => decide (((at' rs k).1, (at' rs k).2.1) ∈ alg P)).map fun k => at' ls k).sum = pc (edg rs ls) P := by
  have z : (rs.zip ls).length = ls.length := by rw [List.length_zip]; omega
  have := rg_fm (rs.zip ls) (fun q => decide ((q.1.1, q.1.2.1) ∈ alg P)) (fun q => q.2)
  rw [z] at this
  have e : ((rgI 0 (ls.length : Int)).filter fun k => decide (((at' rs k).1, (at' rs k).2.1) ∈ alg P)).map (fun k => at' ls k) = ((rgI 0 (ls.length : Int)).filter fun i => decide (((at' (rs.zip ls) i).1.1, (at' (rs.zip ls) i).1.2.1) ∈ alg P)).map (fun i => (at' (rs.zip ls) i).2) := by
    have f : (rgI 0 (ls.length : Int)).filter (fun k => decide (((at' rs k).1, (at' rs k).2.1) ∈ alg P)) = (rgI 0 (ls.length : Int)).filter fun i => decide (((at' (rs.zip ls) i).1.1, (at' (rs.zip ls) i).1.2.1) ∈ alg P) := by
      apply List.filter_congr
      intro i hi
      obtain ⟨i0, i1⟩ := mem_rgI.mp hi
      rw [at_zip i0 (by omega) i1]
    rw [f]
    apply List.map_congr_left
    intro i hi
    obtain ⟨i0, i1⟩ := mem_rgI.mp (List.mem_filter.mp hi).1
    rw [at_zip i0 (by omega) i1]
  rw [e, this]
  unfold pc edg
  rw [List.filter_map, List.map_map]
  rfl
/-! ### how many paths -/
theorem nbr_len {p m : Int} {rs : List (Int × Int × Int)} (g : areLks p rs m = true) (p0 : 0 ≤ p) (x : Int) : (nbr rs x).length ≤ p.toNat := by
  obtain ⟨-, b, c⟩ := areLks_iff.mp g
  have nd : (nbr rs x).Nodup := by
    unfold nbr
    rw [List.nodup_append]
    refine ⟨?_, ?_, ?_⟩
    · show List.Pairwise _ _
      rw [List.pairwise_map]
      refine (c.sublist List.filter_sublist).imp_of_mem fun {r q} hr hq h e => ?_
      have a1 := (List.mem_filter.mp hr).2
      have a2 := (List.mem_filter.mp hq).2
      simp only [decide_eq_true_eq] at a1 a2
      simp only [prLt, Bool.or_eq_true, Bool.and_eq_true, decide_eq_true_eq, beq_iff_eq] at h
      omega
    · show List.Pairwise _ _
      rw [List.pairwise_map]
      refine (c.sublist List.filter_sublist).imp_of_mem fun {r q} hr hq h e => ?_
      have a1 := (List.mem_filter.mp hr).2
      have a2 := (List.mem_filter.mp hq).2
      simp only [decide_eq_true_eq] at a1 a2
      simp only [prLt, Bool.or_eq_true, Bool.and_eq_true, decide_eq_true_eq, beq_iff_eq] at h
      omega
    · intro y hy z hz e
      obtain ⟨r, hr, rfl⟩ := List.mem_map.mp hy
      obtain ⟨q, hq, rfl⟩ := List.mem_map.mp hz
      have a1 := List.mem_filter.mp hr
      have a2 := List.mem_filter.mp hq
      simp only [decide_eq_true_eq] at a1 a2
      have b1 := isLk_lt (b _ a1.1)
      have b2 := isLk_lt (b _ a2.1)
      omega
  refine nodup_le nd fun y hy => ?_
  obtain ⟨l, st⟩ := mem_nbr.mp hy
  rcases st with h | h
  · have := isLk_lt (b _ h); simp only at this; omega
  · have := isLk_lt (b _ h); simp only at this; omega
theorem fl_le' {α β : Type} (f : α → List β) (m : Nat) : ∀ xs : List α, (∀ x ∈ xs, (f x).length ≤ m) → (xs.flatMap f).length ≤ m * xs.length
  | [], _ => by simp
  | x :: xs, h => by
    have a := fl_le' f m xs fun y hy => h y (List.mem_cons_of_mem _ hy)
    have b := h x (List.mem_cons_self ..)
    rw [List.flatMap_cons, List.length_append, List.length_cons, Nat.mul_succ]
    omega
theorem rows_len {p m : Int} {rs : List (Int × Int × Int)} (g : areLks p rs m = true) (p0 : 0 ≤ p) (p6 : p ≤ 6) (s o : Int) : ∀ n, (rowsN rs s o n).length ≤ 6 ^ n
  | 0 => by simp [rowsN]
  | n + 1 => by
    have ih := rows_len g p0 p6 s o n
    have := fl_le' (fun P => ((nbr rs (lst P)).filter fun z => !decide (z ∈ P) && !decide (lst P = o)).map fun z => P ++ [z]) 6 (rowsN rs s o n) fun P _ => by
      rw [List.length_map]
      exact Nat.le_trans (List.length_filter_le _ _) (Nat.le_trans (nbr_len g p0 _) (by omega))
    show (extR rs o (rowsN rs s o n)).length ≤ _
    unfold extR
    rw [Nat.pow_succ]
    omega
theorem rows_le {p m : Int} {rs : List (Int × Int × Int)} (g : areLks p rs m = true) (p0 : 0 ≤ p) (p6 : p ≤ 6) (s o : Int) {n : Nat} (hn : n ≤ 6) : (rowsN rs s o n).length ≤ 46656 :=
  Nat.le_trans (rows_len g p0 p6 s o n) (Nat.le_trans (Nat.pow_le_pow_right (by decide) hn) (by decide))
theorem fnd_len {p m : Int} {rs : List (Int × Int × Int)} (g : areLks p rs m = true) (p0 : 0 ≤ p) (p6 : p ≤ 6) (s o : Int) : ∀ n, n ≤ 6 → (fndN rs s o n).length ≤ n * 46656
  | 0, _ => by simp [fndN]
  | n + 1, h => by
    have a := fnd_len g p0 p6 s o n (by omega)
    have b := rows_le g p0 p6 s o h
    have c := List.length_filter_le (fun P => decide (lst P = o)) (rowsN rs s o (n + 1))
    show (fndN rs s o n ++ _).length ≤ _
    rw [List.length_append, Nat.succ_mul]
    omega
theorem ix_last {h : AH} {P : List Int} (e : P ≠ []) : ixEv h (tint P) (.int (-1)) = some (.int (lst P), false) := by
  have l : 0 < P.length := List.length_pos_iff.mpr e
  have e2 : ixOf P.length (-1) = some (P.length - 1) := by
    unfold ixOf
    rw [if_neg (by decide), if_pos (by omega)]
    congr 1
    omega
  have z : P.length - 1 < P.length := by omega
  have e3 : lst P = P[P.length - 1] := by
    unfold lst
    rw [List.getLastD_eq_getLast?, List.getLast?_eq_some_getLast e]
    simp [List.getLast_eq_getElem]
  simp [ixEv, ddOf, items, e2, z, e3]
end Rw
namespace Rw
theorem litems_ref {h : AH} {n : Nat} {xs : List D} (e : h.os[n]? = some (.lst xs)) : litems h (.ref n) = some xs := by simp only [litems, e]
end Rw
namespace Rw
@[simp] theorem bi_abs (h : AH) (i : Int) : biEv .abs h [.int i] = some (.int i.natAbs, false) := by
  show some (D.int (if i < 0 then -i else i), false) = _
  congr 3
  split <;> omega
theorem take_fold {S : Type} (f : S → Ed → S) (E : List Ed) (s : S) {t : Nat} (h : t < E.length) : (E.take (t + 1)).foldl f s = f ((E.take t).foldl f s) E[t] := by
  rw [List.take_succ, List.getElem?_eq_getElem h, List.foldl_append]
  rfl
theorem edg_len {rs : List (Int × Int × Int)} {ls : List Int} (hl : ls.length = rs.length) : (edg rs ls).length = rs.length := by
  unfold edg
  rw [List.length_map, List.length_zip]
  omega
theorem edg_get {rs : List (Int × Int × Int)} {ls : List Int} (hl : ls.length = rs.length) {t : Nat} (h : t < rs.length) : (edg rs ls)[t]'(by rw [edg_len hl]; exact h) = ((at' rs t).1, (at' rs t).2.1, at' ls t) := by
  have a : at' rs (t : Int) = rs[t] := by simp [at', List.getD, h]
  have b : at' ls (t : Int) = ls[t]'(by omega) := by simp [at', List.getD, show t < ls.length by omega]
  rw [a, b]
  simp [edg]
end Rw
end

section
set_option Elab.async false
set_option linter.all false
set_option maxRecDepth 100000
set_option maxHeartbeats 4000000
/-! RfB10: rooms and flows: a dict of rooms, steps of a path, what flows out of points and over fences. -/
namespace Rw
/-! ### dicts -/
theorem lookT_none {k : List Int} : ∀ {f : List (List Int × D)}, f.any (fun q => q.1 == k) = false ↔ lookT k f = none
  | [] => by simp [lookT]
  | q :: f => by
    rw [List.any_cons]
    unfold lookT
    cases h : q.1 == k
    · simpa using lookT_none (f := f)
    · simp
theorem lookT_put (k : List Int) (v : D) (x : List Int) (f : List (List Int × D)) : lookT x (putT k v f) = if x = k then some v else lookT x f := by
  unfold putT
  split
  · rename_i h
    have key : ∀ f : List (List Int × D), lookT x (f.map fun q => if q.1 == k then (q.1, v) else q) = if x = k then (if f.any (fun q => q.1 == k) then some v else none) else lookT x f := by
      intro f
      induction f with
      | nil => simp [lookT]
      | cons q f ih =>
        rw [List.map_cons, List.any_cons]
        unfold lookT
        rw [ih]
        by_cases a : q.1 = k
        · by_cases b : x = k
          · subst b; simp [a]
          · have c : ¬ k = x := fun e => b e.symm
            simp [a, b, c]
        · have hb : (q.1 == k) = false := by simpa using a
          rw [hb]
          by_cases b : x = k
          · subst b
            simp only [hb, Bool.false_eq_true, if_false, if_true, Bool.false_or]
          · simp only [Bool.false_eq_true, if_false, b]
    rw [key, h]
    simp
  · rename_i h
    have h : f.any (fun q => q.1 == k) = false := by cases e : f.any (fun q => q.1 == k) with | false => rfl | true => exact (h e).elim
    have hn := lookT_none.mp h
    have key : ∀ f : List (List Int × D), lookT x (f ++ [(k, v)]) = match lookT x f with | some c => some c | none => if x = k then some v else none := by
      intro f
      induction f with
      | nil =>
        show (if (k == x) = true then some v else none) = if x = k then some v else none
        by_cases b : x = k
        · simp [b]
        · have : ¬ k = x := fun e => b e.symm
          simp [b, this]
      | cons q f ih =>
        rw [List.cons_append]
        unfold lookT
        rw [ih]
        cases q.1 == x <;> simp
    rw [key]
    by_cases b : x = k
    · subst b
      rw [hn]
    · rw [if_neg b, if_neg b]
      cases lookT x f <;> rfl
theorem putT_len (k : List Int) (v : D) (f : List (List Int × D)) : (putT k v f).length ≤ f.length + 1 := by
  unfold putT
  split <;> simp
theorem putT_lenI {k : List Int} {v : D} {f : List (List Int × D)} (h : (lookT k f).isSome = true) : (putT k v f).length = f.length := by
  unfold putT
  split
  · simp
  · rename_i q
    have q : f.any (fun q => q.1 == k) = false := by cases e : f.any (fun q => q.1 == k) with | false => rfl | true => exact (q e).elim
    rw [lookT_none.mp q] at h
    cases h
/-- values that are ints -/
def IntT (f : List (List Int × D)) : Prop := ∀ q ∈ f, ∃ i : Int, q.2 = .int i
theorem IntT.put {f : List (List Int × D)} (h : IntT f) (k : List Int) (i : Int) : IntT (putT k (.int i) f) := by
  intro q m
  unfold putT at m
  split at m
  · obtain ⟨p, hp, rfl⟩ := List.mem_map.mp m
    split
    · exact ⟨i, rfl⟩
    · exact h p hp
  · rcases List.mem_append.mp m with m | m
    · exact h q m
    · rw [List.mem_singleton] at m; subst m; exact ⟨i, rfl⟩
theorem IntT.top : ∀ {f : List (List Int × D)}, IntT f → topT f = 0
  | [], _ => rfl
  | (k, d) :: f, h => by
    obtain ⟨i, e⟩ := h (k, d) (List.mem_cons_self ..)
    simp only at e
    subst e
    show max (D.int i).top (topT f) = 0
    rw [IntT.top fun q m => h q (List.mem_cons_of_mem _ m)]
    rfl
theorem IntT.frz {f : List (List Int × D)} (h : IntT f) (os : List Ob) (n k : Nat) : (f.map fun p => (p.1, Rw.frz os n k p.2)) = f := by
  have : (f.map fun p => (p.1, Rw.frz os n k p.2)) = f.map id := by
    apply List.map_congr_left
    intro q m
    obtain ⟨i, e⟩ := h q m
    obtain ⟨a, b⟩ := q
    simp only at e
    subst e
    cases k <;> rfl
  rw [this, List.map_id]
abbrev hT (h : AH) (f : List (List Int × D)) : AH := ⟨h.os ++ [.dT f], h.fl⟩
theorem hT_at (h : AH) (f : List (List Int × D)) : (hT h f).os[h.os.length]? = some (.dT f) := by simp
theorem hT_put (h : AH) (f g : List (List Int × D)) : (hT h f).put h.os.length (.dT g) 0 = hT h g := by simp [AH.put]
section
variable {h1 : AH} {n : Nat} {f : List (List Int × D)}
theorem ix_dT (e : h1.os[n]? = some (.dT f)) {x y : Int} {d : D} (q : lookT [x, y] f = some d) : ixEv h1 (.ref n) (.tup [.int x, .int y]) = some (d, false) := by
  have k : keyT (.tup [.int x, .int y]) = some [x, y] := rfl
  simp only [ixEv, ddOf, e, ddLook, k, Option.map_some, q, Option.bind_some]
theorem mt_dT (e : h1.os[n]? = some (.dT f)) : meTy .get h1 (.ref n) = true := by
  simp only [meTy, ddOf, e, Option.isSome]
theorem me_dT (e : h1.os[n]? = some (.dT f)) (x y c : Int) : meEv .get h1 (.ref n) [.tup [.int x, .int y], .int c] = .ok ((lookT [x, y] f).getD (.int c), false) h1 := by
  have k : keyT (.tup [.int x, .int y]) = some [x, y] := rfl
  simp only [meEv, ddOf, e, ddLook, k, Option.map_some]
  cases lookT [x, y] f <;> rfl
theorem set_dT (e : h1.os[n]? = some (.dT f)) (hl : f.length ≤ 1000) (x y v : Int) : setEv h1 (.ref n) (.tup [.int x, .int y]) (.int v) = some (h1.put n (.dT (putT [x, y] (.int v) f)) 0) := by
  have k : keyT (.tup [.int x, .int y]) = some [x, y] := rfl
  have l : f.length < LN := by show _ < 1000000; omega
  simp only [setEv, e, k, Option.bind_some, if_pos l]
  rfl
end
theorem leave_T {h : AH} {f : List (List Int × D)} {d : D} {b : Bool} (hf : h.fl ≤ h.os.length) (e : d.top = 0) : leave h.os.length d b (hT h f) = .ok (d, b) h := by
  rw [leave_take (h := hT h f) hf e]
  congr 1
  obtain ⟨os, fl⟩ := h
  simp
theorem leave_rT {h : AH} {f : List (List Int × D)} (hf : h.fl ≤ h.os.length) (t : IntT f) : leave h.os.length (.ref h.os.length) false (hT h f) = .ok (.dT f, true) h := by
  have fz : frz (hT h f).os h.os.length 8 (.ref h.os.length) = .dT f := by
    show (if h.os.length ≤ h.os.length then _ else _) = _
    rw [if_pos (Nat.le_refl _), hT_at]
    show D.dT _ = _
    rw [t.frz]
  have tf : (D.dT f).top = 0 := t.top
  have fl : flat (hT h f).os h.os.length (.ref h.os.length) = true := by
    have a := hT_at h f
    simp only [flat, a, Nat.le_refl, decide_true, Bool.true_and]
    show decide (topT f ≤ _) = true
    rw [t.top]
    simp
  unfold leave
  rw [if_pos hf, fz, tf, if_pos (Nat.zero_le _), fl]
  obtain ⟨os, fl⟩ := h
  simp
theorem leave_tT {h : AH} {f : List (List Int × D)} {i : Int} (hf : h.fl ≤ h.os.length) (t : IntT f) : leave h.os.length (.tup [.int i, .ref h.os.length]) false (hT h f) = .ok (.tup [.int i, .dT f], false) h := by
  have fz : frz (hT h f).os h.os.length 7 (.ref h.os.length) = .dT f := by
    show (if h.os.length ≤ h.os.length then _ else _) = _
    rw [if_pos (Nat.le_refl _), hT_at]
    show D.dT _ = _
    rw [t.frz]
  have fz2 : frz (hT h f).os h.os.length 8 (.tup [.int i, .ref h.os.length]) = .tup [.int i, .dT f] := by
    show D.tup [D.int i, _] = _
    rw [fz]
  have tf : (D.tup [.int i, .dT f]).top = 0 := by
    show max 0 (max (topT f) 0) = 0
    rw [t.top]
    rfl
  unfold leave
  rw [if_pos hf, fz2, tf, if_pos (Nat.zero_le _)]
  obtain ⟨os, fl⟩ := h
  simp [flat]
theorem reg_T (h : AH) {f : List (List Int × D)} (t : IntT f) : regEv h (.dT f, true) = .ok (.ref h.os.length, false) (hT h f) := by
  simp [regEv, AH.new, t.top]
/-! ### widths of pairs -/
def mt (r : Int × Int × Int) (x y : Int) : Bool := (decide (r.1 = x) && decide (r.2.1 = y)) || (decide (r.1 = y) && decide (r.2.1 = x))
def wd : List (Int × Int × Int) → Int → Int → Option Int
  | [], _, _ => none
  | r :: rs, x, y => if mt r x y then some r.2.2 else wd rs x y
theorem wd_cons (r : Int × Int × Int) (rs : List (Int × Int × Int)) (x y : Int) : wd (r :: rs) x y = if mt r x y then some r.2.2 else wd rs x y := rfl
theorem mt_sym (r : Int × Int × Int) (x y : Int) : mt r x y = mt r y x := by unfold mt; rw [Bool.or_comm]
theorem wd_sym : ∀ (rs : List (Int × Int × Int)) (x y : Int), wd rs x y = wd rs y x
  | [], _, _ => rfl
  | r :: rs, x, y => by rw [wd_cons, wd_cons, mt_sym, wd_sym rs]
theorem wd_mem : ∀ {rs : List (Int × Int × Int)} {x y w : Int}, wd rs x y = some w → ∃ r ∈ rs, r.2.2 = w ∧ mt r x y = true
  | r :: rs, x, y, w, h => by
    rw [wd_cons] at h
    split at h
    · rename_i q
      exact ⟨r, List.mem_cons_self .., by simpa using h, q⟩
    · obtain ⟨r', m, e⟩ := wd_mem h
      exact ⟨r', List.mem_cons_of_mem _ m, e⟩
theorem mt_iff {r : Int × Int × Int} {x y : Int} : mt r x y = true ↔ (r.1 = x ∧ r.2.1 = y) ∨ (r.1 = y ∧ r.2.1 = x) := by simp [mt]
/-- roads: different points, each pair once -/
structure ROk (p : Int) (rs : List (Int × Int × Int)) : Prop where
  pt : ∀ r ∈ rs, 0 ≤ r.1 ∧ r.1 < r.2.1 ∧ r.2.1 < p ∧ 1 ≤ r.2.2 ∧ r.2.2 ≤ 6
  pw : rs.Pairwise fun a b => ¬ (a.1 = b.1 ∧ a.2.1 = b.2.1)
theorem rOk_of {p m : Int} {rs : List (Int × Int × Int)} (g : areLks p rs m = true) : ROk p rs := by
  obtain ⟨-, b, c⟩ := areLks_iff.mp g
  refine ⟨fun r m => isLk_lt (b r m), c.imp fun {a b} h e => ?_⟩
  simp only [prLt, Bool.or_eq_true, Bool.and_eq_true, decide_eq_true_eq, beq_iff_eq] at h
  omega
theorem ROk.tail {p : Int} {r : Int × Int × Int} {rs : List (Int × Int × Int)} (o : ROk p (r :: rs)) : ROk p rs := ⟨fun q m => o.pt q (List.mem_cons_of_mem _ m), (List.pairwise_cons.mp o.pw).2⟩
theorem ROk.once {p : Int} {r : Int × Int × Int} {rs : List (Int × Int × Int)} (o : ROk p (r :: rs)) {x y : Int} (h : mt r x y = true) : wd rs x y = none := by
  cases e : wd rs x y with
  | none => rfl
  | some w =>
    obtain ⟨q, m, -, hq⟩ := wd_mem e
    have a := (List.pairwise_cons.mp o.pw).1 q m
    have b := o.pt r (List.mem_cons_self ..)
    have c := o.pt q (List.mem_cons_of_mem _ m)
    rw [mt_iff] at h hq
    omega
theorem ROk.wd_of {p : Int} : ∀ {rs : List (Int × Int × Int)}, ROk p rs → ∀ r ∈ rs, wd rs r.1 r.2.1 = some r.2.2
  | q :: rs, o, r, m => by
    rw [wd_cons]
    rcases List.mem_cons.mp m with rfl | m
    · rw [if_pos (by simp [mt])]
    · have a := (List.pairwise_cons.mp o.pw).1 r m
      have b := o.pt q (List.mem_cons_self ..)
      have c := o.pt r (List.mem_cons_of_mem _ m)
      rw [if_neg fun h => by rw [mt_iff] at h; omega]
      exact o.tail.wd_of r m
theorem ROk.wd_pt {p : Int} {rs : List (Int × Int × Int)} (o : ROk p rs) {x y w : Int} (h : wd rs x y = some w) : 0 ≤ x ∧ x < p ∧ 0 ≤ y ∧ y < p ∧ x ≠ y ∧ 1 ≤ w ∧ w ≤ 6 := by
  obtain ⟨r, m, e, q⟩ := wd_mem h
  have := o.pt r m
  rw [mt_iff] at q
  omega
/-- the rooms at the start -/
def rmS (f : List (List Int × D)) (r : Int × Int × Int) : List (List Int × D) := putT [r.2.1, r.1] (.int r.2.2) (putT [r.1, r.2.1] (.int r.2.2) f)
theorem rmF_look {p : Int} : ∀ {rs : List (Int × Int × Int)}, ROk p rs → ∀ (f : List (List Int × D)) (x y : Int), lookT [x, y] (rs.foldl rmS f) = match wd rs x y with | some w => some (.int w) | none => lookT [x, y] f
  | [], _, f, x, y => rfl
  | r :: rs, o, f, x, y => by
    rw [List.foldl_cons, rmF_look o.tail]
    rw [wd_cons]
    by_cases h : mt r x y = true
    · rw [o.once h, if_pos h]
      unfold rmS
      rw [lookT_put, lookT_put]
      rw [mt_iff] at h
      rcases h with ⟨rfl, rfl⟩ | ⟨rfl, rfl⟩
      · by_cases c : [r.1, r.2.1] = [r.2.1, r.1] <;> simp [c]
      · simp
    · rw [if_neg h]
      cases wd rs x y with
      | some w => rfl
      | none =>
        unfold rmS
        rw [lookT_put, lookT_put]
        rw [mt_iff] at h
        rw [if_neg (by simp only [List.cons.injEq, and_true]; omega), if_neg (by simp only [List.cons.injEq, and_true]; omega)]
theorem rmF_int : ∀ (rs : List (Int × Int × Int)) (f : List (List Int × D)), IntT f → IntT (rs.foldl rmS f)
  | [], f, h => h
  | r :: rs, f, h => rmF_int rs _ ((h.put _ _).put _ _)
theorem rmF_len : ∀ (rs : List (Int × Int × Int)) (f : List (List Int × D)), (rs.foldl rmS f).length ≤ f.length + 2 * rs.length
  | [], f => by simp
  | r :: rs, f => by
    rw [List.foldl_cons, List.length_cons]
    have a := rmF_len rs (rmS f r)
    have b : (rmS f r).length ≤ f.length + 2 := by
      unfold rmS
      have c := putT_len [r.2.1, r.1] (.int r.2.2) (putT [r.1, r.2.1] (.int r.2.2) f)
      have d := putT_len [r.1, r.2.1] (.int r.2.2) f
      omega
    omega
/-! ### flows -/
/-- the dict holds the rooms that the flow leaves -/
structure DOk (rs : List (Int × Int × Int)) (φ : Int → Int → Int) (f : List (List Int × D)) : Prop where
  look : ∀ x y, lookT [x, y] f = (wd rs x y).map fun w => .int (w - φ x y)
  int : IntT f
  len : f.length ≤ 1000
theorem dOk_0 {p : Int} {rs : List (Int × Int × Int)} (o : ROk p rs) (l : rs.length ≤ 100) : DOk rs (fun _ _ => 0) (rs.foldl rmS []) := by
  refine ⟨fun x y => ?_, rmF_int rs [] (fun q m => by cases m), ?_⟩
  · rw [rmF_look o]
    cases wd rs x y with
    | none => rfl
    | some w => simp
  · have := rmF_len rs []
    simp only [List.length_nil] at this
    omega
def stp (m : Int) (φ : Int → Int → Int) (e : Int × Int) : Int → Int → Int := fun a b => if a = e.1 ∧ b = e.2 then φ a b + m else if a = e.2 ∧ b = e.1 then φ a b - m else φ a b
def psD (m : Int) (φ : Int → Int → Int) (w : Int) (f : List (List Int × D)) (e : Int × Int) : List (List Int × D) := putT [e.2, e.1] (.int (w - φ e.2 e.1 + m)) (putT [e.1, e.2] (.int (w - φ e.1 e.2 - m)) f)
theorem DOk.stp {p : Int} {rs : List (Int × Int × Int)} (o : ROk p rs) {φ : Int → Int → Int} {f : List (List Int × D)} (d : DOk rs φ f) {x y w : Int} (h : wd rs x y = some w) (m : Int) :
    DOk rs (stp m φ (x, y)) (psD m φ w f (x, y)) := by
  have z := o.wd_pt h
  have hs : wd rs y x = some w := by rw [wd_sym]; exact h
  refine ⟨fun a b => ?_, (d.int.put _ _).put _ _, ?_⟩
  · unfold psD Rw.stp
    simp only
    rw [lookT_put, lookT_put, d.look]
    by_cases c1 : a = x ∧ b = y
    · obtain ⟨rfl, rfl⟩ := c1
      rw [if_neg (by simp only [List.cons.injEq, and_true]; omega), if_pos rfl, if_pos ⟨rfl, rfl⟩, h]
      show some _ = some _
      congr 2
      omega
    · by_cases c2 : a = y ∧ b = x
      · obtain ⟨rfl, rfl⟩ := c2
        rw [if_pos rfl, if_neg c1, if_pos ⟨rfl, rfl⟩, hs]
        show some _ = some _
        congr 2
        omega
      · rw [if_neg (by simp only [List.cons.injEq, and_true]; omega), if_neg (by simp only [List.cons.injEq, and_true]; omega), if_neg c1, if_neg c2]
  · unfold psD
    rw [putT_lenI, putT_lenI]
    · exact d.len
    · rw [d.look, h]; rfl
    · rw [lookT_put, if_neg (by simp only [List.cons.injEq, and_true]; omega), d.look, hs]; rfl
/-- the steps of a path -/
def sps : List Int → List (Int × Int)
  | x :: y :: r => (x, y) :: sps (y :: r)
  | _ => []
theorem sps_mem : ∀ {P : List Int} {e : Int × Int}, e ∈ sps P → e.1 ∈ P ∧ e.2 ∈ P
  | [x], e, h => by cases h
  | x :: y :: r, e, h => by
    unfold sps at h
    rcases List.mem_cons.mp h with rfl | h
    · simp
    · have := sps_mem h
      exact ⟨List.mem_cons_of_mem _ this.1, List.mem_cons_of_mem _ this.2⟩
theorem sps_snoc : ∀ (P : List Int) (v : Int) (hne : P ≠ []), sps (P ++ [v]) = sps P ++ [(P.getLast hne, v)]
  | [x], v, _ => rfl
  | x :: y :: r, v, _ => by
    show (x, y) :: sps (y :: r ++ [v]) = (x, y) :: sps (y :: r) ++ _
    rw [sps_snoc (y :: r) v (by simp)]
    rfl
theorem fold_stp (m : Int) : ∀ {P : List Int}, P.Nodup → ∀ (φ : Int → Int → Int) (a b : Int), (sps P).foldl (stp m) φ a b = φ a b + (if (a, b) ∈ sps P then m else 0) - (if (b, a) ∈ sps P then m else 0)
  | [], _, φ, a, b => by simp [sps]
  | [x], _, φ, a, b => by simp [sps]
  | x :: y :: r, nd, φ, a, b => by
    unfold sps
    rw [List.foldl_cons, fold_stp m (List.nodup_cons.mp nd).2]
    have nx := (List.nodup_cons.mp nd).1
    have xy : x ≠ y := fun e => nx (by rw [e]; simp)
    have n1 : ∀ c, (x, c) ∉ sps (y :: r) := fun c h => nx (sps_mem h).1
    have n2 : ∀ c, (c, x) ∉ sps (y :: r) := fun c h => nx (sps_mem h).2
    unfold stp
    simp only [List.mem_cons, Prod.mk.injEq]
    by_cases c1 : a = x ∧ b = y
    · obtain ⟨rfl, rfl⟩ := c1
      have : ¬ (b = a ∧ a = b) := fun h => xy h.2
      simp [n1, n2, this]
    · by_cases c2 : a = y ∧ b = x
      · obtain ⟨rfl, rfl⟩ := c2
        have : ¬ (a = b ∧ b = a) := fun h => xy h.2
        simp [n1, n2, this]
        try omega
      · have c3 : ¬ (b = x ∧ a = y) := fun h => c2 ⟨h.2, h.1⟩
        simp only [c1, c2, c3, if_false, false_or]
/-- what flows out of a point -/
def outp : List (Int × Int × Int) → (Int → Int → Int) → Int → Int
  | [], _, _ => 0
  | r :: rs, φ, z => (if r.1 = z then φ r.1 r.2.1 else 0) + (if r.2.1 = z then φ r.2.1 r.1 else 0) + outp rs φ z
theorem outp_cons (r : Int × Int × Int) (rs : List (Int × Int × Int)) (φ : Int → Int → Int) (z : Int) : outp (r :: rs) φ z = (if r.1 = z then φ r.1 r.2.1 else 0) + (if r.2.1 = z then φ r.2.1 r.1 else 0) + outp rs φ z := rfl
theorem outp_none : ∀ {rs : List (Int × Int × Int)} {φ : Int → Int → Int} {m x y z : Int}, wd rs x y = none → outp rs (stp m φ (x, y)) z = outp rs φ z
  | [], _, _, _, _, _, _ => rfl
  | r :: rs, φ, m, x, y, z, h => by
    rw [wd_cons] at h
    split at h
    · cases h
    · rename_i q
      rw [mt_iff] at q
      rw [outp_cons, outp_cons]
      rw [outp_none h]
      unfold stp
      simp only
      rw [if_neg (by omega : ¬ (r.1 = x ∧ r.2.1 = y)), if_neg (by omega : ¬ (r.1 = y ∧ r.2.1 = x)), if_neg (by omega : ¬ (r.2.1 = x ∧ r.1 = y)), if_neg (by omega : ¬ (r.2.1 = y ∧ r.1 = x))]
theorem outp_stp {p : Int} : ∀ {rs : List (Int × Int × Int)}, ROk p rs → ∀ {φ : Int → Int → Int} {m x y w : Int} (z : Int), wd rs x y = some w → outp rs (stp m φ (x, y)) z = outp rs φ z + (if z = x then m else 0) - (if z = y then m else 0)
  | r :: rs, o, φ, m, x, y, w, z, h => by
    have zr := o.pt r (List.mem_cons_self ..)
    by_cases q : mt r x y = true
    · have := o.once q
      rw [outp_cons, outp_cons]
      rw [outp_none this]
      rw [mt_iff] at q
      unfold stp
      simp only
      rcases q with ⟨rfl, rfl⟩ | ⟨rfl, rfl⟩
      · rw [if_pos (⟨rfl, rfl⟩ : r.1 = r.1 ∧ r.2.1 = r.2.1), if_neg (by omega : ¬ (r.2.1 = r.1 ∧ r.1 = r.2.1)), if_pos (⟨rfl, rfl⟩ : r.2.1 = r.2.1 ∧ r.1 = r.1)]
        by_cases a : r.1 = z <;> by_cases b : r.2.1 = z <;> simp [a, b, eq_comm] <;> omega
      · rw [if_neg (by omega : ¬ (r.1 = r.2.1 ∧ r.2.1 = r.1)), if_pos (⟨rfl, rfl⟩ : r.1 = r.1 ∧ r.2.1 = r.2.1), if_pos (⟨rfl, rfl⟩ : r.2.1 = r.2.1 ∧ r.1 = r.1)]
        by_cases a : r.1 = z <;> by_cases b : r.2.1 = z <;> simp [a, b, eq_comm] <;> omega
    · have h' : wd rs x y = some w := by
        rw [wd_cons] at h
        rw [if_neg q] at h
        exact h
      rw [outp_cons, outp_cons]
      rw [outp_stp o.tail z h']
      rw [mt_iff] at q
      unfold stp
      simp only
      rw [if_neg (by omega : ¬ (r.1 = x ∧ r.2.1 = y)), if_neg (by omega : ¬ (r.1 = y ∧ r.2.1 = x)), if_neg (by omega : ¬ (r.2.1 = x ∧ r.1 = y)), if_neg (by omega : ¬ (r.2.1 = y ∧ r.1 = x))]
      omega
/-- along a path -/
theorem outp_path {p : Int} {rs : List (Int × Int × Int)} (o : ROk p rs) (m : Int) : ∀ (P : List Int) (hne : P ≠ []) (φ : Int → Int → Int) (z : Int), (∀ e ∈ sps P, (wd rs e.1 e.2).isSome = true) → outp rs ((sps P).foldl (stp m) φ) z = outp rs φ z + (if z = P.head hne then m else 0) - (if z = P.getLast hne then m else 0)
  | [x], _, φ, z, _ => by
    show outp rs φ z = outp rs φ z + (if z = x then m else 0) - (if z = x then m else 0)
    omega
  | x :: y :: r, _, φ, z, h => by
    have h1 := h (x, y) (by unfold sps; simp)
    obtain ⟨w, hw⟩ := Option.isSome_iff_exists.mp h1
    unfold sps
    rw [List.foldl_cons, outp_path o m (y :: r) (by simp) _ z (fun e he => h e (by unfold sps; exact List.mem_cons_of_mem _ he)), outp_stp o z hw]
    show _ + (if z = y then m else 0) - (if z = (y :: r).getLast _ then m else 0) = _ + (if z = x then m else 0) - (if z = (x :: y :: r).getLast _ then m else 0)
    rw [List.getLast_cons_cons]
    omega
/-! ### over a fence -/
theorem sum_pick {S : Int → Bool} {c : Int} : ∀ (l : List Int), l.Nodup → ∀ x : Int, ((l.filter S).map fun z => if x = z then c else 0).sum = if x ∈ l ∧ S x = true then c else 0
  | [], _, x => by simp
  | y :: l, nd, x => by
    obtain ⟨n1, n2⟩ := List.nodup_cons.mp nd
    have ih := sum_pick (S := S) (c := c) l n2 x
    by_cases s : S y = true
    · rw [List.filter_cons_of_pos s, List.map_cons, List.sum_cons, ih]
      by_cases e : x = y
      · subst e
        simp [n1, s]
      · simp [e]
    · rw [List.filter_cons_of_neg s, ih]
      by_cases e : x = y
      · subst e
        simp [n1, s]
      · simp [e]
def over : List (Int × Int × Int) → (Int → Int → Int) → (Int → Bool) → Int
  | [], _, _ => 0
  | r :: rs, φ, S => (if S r.1 then φ r.1 r.2.1 else 0) + (if S r.2.1 then φ r.2.1 r.1 else 0) + over rs φ S
theorem over_cons (r : Int × Int × Int) (rs : List (Int × Int × Int)) (φ : Int → Int → Int) (S : Int → Bool) : over (r :: rs) φ S = (if S r.1 then φ r.1 r.2.1 else 0) + (if S r.2.1 then φ r.2.1 r.1 else 0) + over rs φ S := rfl
theorem rgI_nodup (a b : Int) : (rgI a b).Nodup := by
  unfold rgI
  rw [List.Nodup, List.pairwise_map]
  exact List.nodup_range.imp fun h e => h (by omega)
theorem sum_over {p : Int} {S : Int → Bool} : ∀ {rs : List (Int × Int × Int)}, ROk p rs → ∀ (φ : Int → Int → Int), (((rgI 0 p).filter S).map (outp rs φ)).sum = over rs φ S
  | [], _, φ => by
    show (((rgI 0 p).filter S).map fun _ => (0 : Int)).sum = 0
    induction ((rgI 0 p).filter S) with
    | nil => rfl
    | cons x l ih => rw [List.map_cons, List.sum_cons, ih]; rfl
  | r :: rs, o, φ => by
    have z := o.pt r (List.mem_cons_self ..)
    show (((rgI 0 p).filter S).map fun z => (if r.1 = z then φ r.1 r.2.1 else 0) + (if r.2.1 = z then φ r.2.1 r.1 else 0) + outp rs φ z).sum = _
    rw [sum_add, sum_add, sum_pick _ (rgI_nodup 0 p), sum_pick _ (rgI_nodup 0 p), sum_over o.tail]
    rw [over_cons]
    have m1 : r.1 ∈ rgI 0 p := mem_rgI.mpr (by omega)
    have m2 : r.2.1 ∈ rgI 0 p := mem_rgI.mpr (by omega)
    simp [m1, m2]
/-- flows -/
structure Flow (p : Int) (rs : List (Int × Int × Int)) (s t : Int) (φ : Int → Int → Int) (v : Int) : Prop where
  as : ∀ x y, φ x y = - φ y x
  cap : ∀ x y w, wd rs x y = some w → φ x y ≤ w
  mid : ∀ z, z ≠ s → z ≠ t → outp rs φ z = 0
  out : outp rs φ s = v
theorem over_eq {p : Int} {rs : List (Int × Int × Int)} (o : ROk p rs) {s t v : Int} {φ : Int → Int → Int} (F : Flow p rs s t φ v) (S : Int → Bool) (s0 : 0 ≤ s) (s1 : s < p) (hs : S s = true) (ht : S t = false) : over rs φ S = v := by
  rw [← sum_over o φ]
  have : ((rgI 0 p).filter S).map (outp rs φ) = ((rgI 0 p).filter S).map fun z => if s = z then v else 0 := by
    apply List.map_congr_left
    intro z m
    have hz := (List.mem_filter.mp m).2
    by_cases e : s = z
    · subst e; rw [if_pos rfl]; exact F.out
    · rw [if_neg e]
      refine F.mid z (fun h => e h.symm) fun h => ?_
      subst h
      rw [ht] at hz
      cases hz
  rw [this, sum_pick _ (rgI_nodup 0 p)]
  have m1 : s ∈ rgI 0 p := mem_rgI.mpr (by omega)
  simp [m1, hs]
theorem over_le {p : Int} : ∀ {rs : List (Int × Int × Int)}, ROk p rs → ∀ {φ : Int → Int → Int} (as : ∀ x y, φ x y = - φ y x) (cap : ∀ r ∈ rs, φ r.1 r.2.1 ≤ r.2.2 ∧ φ r.2.1 r.1 ≤ r.2.2) {S : Int → Bool} {f : List Int}, (∀ r ∈ rs, crs f r = (S r.1 != S r.2.1)) → over rs φ S ≤ wid rs f ∧ ((∀ r ∈ rs, (S r.1 = true → S r.2.1 = false → φ r.1 r.2.1 = r.2.2) ∧ (S r.2.1 = true → S r.1 = false → φ r.2.1 r.1 = r.2.2)) → over rs φ S = wid rs f)
  | [], _, _, _, _, _, _, _ => ⟨Int.le_refl _, fun _ => rfl⟩
  | r :: rs, o, φ, as, cap, S, f, h => by
    have ih := over_le o.tail as (fun q m => cap q (List.mem_cons_of_mem _ m)) (S := S) (f := f) (fun q m => h q (List.mem_cons_of_mem _ m))
    have c := cap r (List.mem_cons_self ..)
    have hr := h r (List.mem_cons_self ..)
    have a := as r.1 r.2.1
    rw [wid_cons, hr]
    rw [over_cons]
    cases e1 : S r.1 <;> cases e2 : S r.2.1
    · refine ⟨by simpa using ih.1, fun q => by simpa using ih.2 fun x m => q x (List.mem_cons_of_mem _ m)⟩
    · refine ⟨by simp; omega, fun q => ?_⟩
      have i2 := ih.2 fun x m => q x (List.mem_cons_of_mem _ m)
      have := (q r (List.mem_cons_self ..)).2 e2 e1
      simp
      omega
    · refine ⟨by simp; omega, fun q => ?_⟩
      have i2 := ih.2 fun x m => q x (List.mem_cons_of_mem _ m)
      have := (q r (List.mem_cons_self ..)).1 e1 e2
      simp
      omega
    · refine ⟨by simp; omega, fun q => ?_⟩
      have i2 := ih.2 fun x m => q x (List.mem_cons_of_mem _ m)
      simp
      omega
theorem Flow.capR {p : Int} {rs : List (Int × Int × Int)} (o : ROk p rs) {s t v : Int} {φ : Int → Int → Int} (F : Flow p rs s t φ v) : ∀ r ∈ rs, φ r.1 r.2.1 ≤ r.2.2 ∧ φ r.2.1 r.1 ≤ r.2.2 := fun r m =>
  ⟨F.cap _ _ _ (o.wd_of r m), F.cap _ _ _ (by rw [wd_sym]; exact o.wd_of r m)⟩
/-- a flow is no more than a fence between -/
theorem Flow.le {p : Int} {rs : List (Int × Int × Int)} (o : ROk p rs) {s t v : Int} {φ : Int → Int → Int} (F : Flow p rs s t φ v) (s0 : 0 ≤ s) (s1 : s < p) {f : List Int} (hf : decide (s ∈ f) ≠ decide (t ∈ f)) : v ≤ wid rs f := by
  have e := over_eq o F (fun x => decide (x ∈ f) == decide (s ∈ f)) s0 s1 (by simp) (by
    simp only [beq_eq_false_iff_ne]
    exact fun h => hf h.symm)
  rw [← e]
  refine (over_le o F.as (F.capR o) fun r m => ?_).1
  unfold crs
  by_cases a : r.1 ∈ f <;> by_cases b : r.2.1 ∈ f <;> by_cases c : s ∈ f <;> simp [a, b, c]
/-- where a set that has s, not t, lets nothing further out, its fence is as wide as the flow -/
theorem Flow.least {p : Int} {rs : List (Int × Int × Int)} (o : ROk p rs) {s t v : Int} {φ : Int → Int → Int} (F : Flow p rs s t φ v) (s0 : 0 ≤ s) (s1 : s < p) (t0 : 0 ≤ t) (t1 : t < p) (X : Int → Bool) (hs : X s = true) (ht : X t = false)
    (cl : ∀ x y w, wd rs x y = some w → X x = true → X y = false → w - φ x y ≤ 0) : ∃ f ∈ fcs p, decide (s ∈ f) ≠ decide (t ∈ f) ∧ wid rs f = v := by
  have e := over_eq o F X s0 s1 hs ht
  have mf : ∀ x, 0 ≤ x → x < p → decide (x ∈ (rgI 0 p).filter fun x => X x != X 0) = (X x != X 0) := fun x x0 x1 => by
    have : x ∈ rgI 0 p := mem_rgI.mpr (by omega)
    rw [Bool.eq_iff_iff, decide_eq_true_eq, List.mem_filter]
    exact ⟨fun h => h.2, fun h => ⟨this, h⟩⟩
  refine ⟨(rgI 0 p).filter fun x => X x != X 0, (mem_fcs (by omega)).mpr ⟨?_, ?_, fun x m => ?_⟩, ?_, ?_⟩
  · intro q
    have a := mf s s0 s1
    have b := mf t t0 t1
    rw [q] at a b
    rw [hs] at a
    rw [ht] at b
    cases c : X 0 <;> rw [c] at a b <;> simp at a b
  · refine List.Pairwise.filter _ ?_
    unfold rgI
    rw [List.pairwise_map]
    exact List.pairwise_lt_range.imp fun h => by omega
  · obtain ⟨a, b⟩ := List.mem_filter.mp m
    have := mem_rgI.mp a
    refine ⟨?_, this.2⟩
    rcases Int.lt_or_le x 1 with h | h
    · have : x = 0 := by omega
      subst this
      simp at b
    · exact h
  · rw [mf s s0 s1, mf t t0 t1, hs, ht]
    cases X 0 <;> decide
  · rw [← e]
    refine ((over_le o F.as (F.capR o) fun r m => ?_).2 fun r m => ⟨fun a b => ?_, fun a b => ?_⟩).symm
    · have z := o.pt r m
      unfold crs
      rw [mf _ (by omega) (by omega), mf _ (by omega) (by omega)]
      cases X r.1 <;> cases X r.2.1 <;> cases X 0 <;> rfl
    · have c := cl _ _ _ (o.wd_of r m) a b
      have := (F.capR o r m).1
      omega
    · have c := cl _ _ _ (by rw [wd_sym]; exact o.wd_of r m) a b
      have := (F.capR o r m).2
      omega
/-- more along a path -/
theorem Flow.push {p : Int} {rs : List (Int × Int × Int)} (o : ROk p rs) {s t v : Int} {φ : Int → Int → Int} (F : Flow p rs s t φ v) (st : s ≠ t) {P : List Int} (nd : P.Nodup) (hne : P ≠ []) (hs : P.head hne = s) (ht : P.getLast hne = t) {m : Int} (m0 : 0 ≤ m) (hw : ∀ e ∈ sps P, ∃ w, wd rs e.1 e.2 = some w ∧ m ≤ w - φ e.1 e.2) :
    Flow p rs s t ((sps P).foldl (stp m) φ) (v + m) := by
  have so : ∀ e ∈ sps P, (wd rs e.1 e.2).isSome = true := fun e he => by
    obtain ⟨w, h, -⟩ := hw e he
    rw [h]; rfl
  refine ⟨fun x y => ?_, fun x y w h => ?_, fun z h1 h2 => ?_, ?_⟩
  · rw [fold_stp m nd, fold_stp m nd]
    have := F.as x y
    omega
  · rw [fold_stp m nd]
    have c := F.cap x y w h
    by_cases a : (x, y) ∈ sps P
    · obtain ⟨w', h', l⟩ := hw _ a
      simp only at h' l
      rw [h] at h'
      cases h'
      rw [if_pos a]
      split <;> omega
    · rw [if_neg a]
      split <;> omega
  · rw [outp_path o m P hne _ z so, hs, ht, if_neg h1, if_neg h2, F.mid z h1 h2]
    rfl
  · rw [outp_path o m P hne _ s so, hs, ht, if_pos rfl, if_neg st, F.out]
    omega
theorem flow_0 (p : Int) (rs : List (Int × Int × Int)) (o : ROk p rs) (s t : Int) : Flow p rs s t (fun _ _ => 0) 0 := by
  have z : ∀ rs : List (Int × Int × Int), ∀ z, outp rs (fun _ _ => 0) z = 0 := by
    intro rs
    induction rs with
    | nil => intro z; rfl
    | cons r rs ih => intro z; unfold outp; rw [ih]; simp
  exact ⟨fun _ _ => rfl, fun x y w h => by have := o.wd_pt h; omega, fun w _ _ => z rs w, z rs s⟩
/-! ### the shortest path -/
def lkP (k : Int) : List (Int × List Int) → Option (List Int)
  | [] => none
  | q :: f => if q.1 == k then some q.2 else lkP k f
def kys (F : List (Int × List Int)) : List Int := F.map (·.1)
theorem lkP_kys {k : Int} : ∀ {F : List (Int × List Int)}, (lkP k F).isSome = decide (k ∈ kys F)
  | [] => by simp [lkP, kys]
  | q :: F => by
    have ih := lkP_kys (k := k) (F := F)
    show (if q.1 == k then some q.2 else lkP k F).isSome = decide (k ∈ q.1 :: kys F)
    by_cases e : q.1 = k
    · simp [e]
    · have e' : ¬ k = q.1 := fun h => e h.symm
      simp [e, e', ih]
theorem lkP_mem {k : Int} {P : List Int} : ∀ {F : List (Int × List Int)}, lkP k F = some P → (k, P) ∈ F
  | q :: F, h => by
    unfold lkP at h
    split at h
    · rename_i e
      have e : q.1 = k := by simpa using e
      have : q.2 = P := by simpa using h
      subst e this
      exact List.mem_cons_self ..
    · exact List.mem_cons_of_mem _ (lkP_mem h)
theorem lkP_app {x v : Int} {P : List Int} : ∀ {F : List (Int × List Int)}, lkP x (F ++ [(v, P)]) = match lkP x F with | some Q => some Q | none => if v = x then some P else none
  | [] => by
    show (if v == x then some P else none) = if v = x then some P else none
    by_cases e : v = x <;> simp [e]
  | q :: F => by
    have ih := lkP_app (x := x) (v := v) (P := P) (F := F)
    show (if q.1 == x then some q.2 else lkP x (F ++ [(v, P)])) = match (if q.1 == x then some q.2 else lkP x F) with | some Q => some Q | none => if v = x then some P else none
    rw [ih]
    cases q.1 == x <;> rfl
def dmP (F : List (Int × List Int)) : List (Int × D) := F.map fun q => (q.1, tint q.2)
theorem lookI_dmP (k : Int) : ∀ F : List (Int × List Int), lookI k (dmP F) = (lkP k F).map tint
  | [] => rfl
  | q :: F => by
    show (if (q.1 == k) = true then some (tint q.2) else lookI k (dmP F)) = _
    rw [lookI_dmP k F]
    show _ = (if (q.1 == k) = true then some q.2 else lkP k F).map _
    cases q.1 == k <;> rfl
theorem putI_new {k : Int} {P : List Int} {F : List (Int × List Int)} (h : k ∉ kys F) : putI k (tint P) (dmP F) = dmP (F ++ [(k, P)]) := by
  unfold putI
  have : (dmP F).any (fun p => p.1 == k) = false := by
    rw [List.any_eq_false]
    intro q m e
    obtain ⟨r, hr, rfl⟩ := List.mem_map.mp m
    exact h (List.mem_map.mpr ⟨r, hr, by simpa using e⟩)
  rw [this]
  simp [dmP]
/-- the room from one point to another -/
def rmv (rs : List (Int × Int × Int)) (φ : Int → Int → Int) (x y : Int) : Int := match wd rs x y with | some w => w - φ x y | none => 0
theorem DOk.get {rs : List (Int × Int × Int)} {φ : Int → Int → Int} {f : List (List Int × D)} (d : DOk rs φ f) (x y : Int) : (lookT [x, y] f).getD (.int 0) = .int (rmv rs φ x y) := by
  rw [d.look]
  unfold rmv
  cases wd rs x y <;> rfl
theorem rmv_pos {rs : List (Int × Int × Int)} {φ : Int → Int → Int} {x y : Int} (h : 0 < rmv rs φ x y) : ∃ w, wd rs x y = some w ∧ 0 < w - φ x y := by
  unfold rmv at h
  cases e : wd rs x y with
  | none => rw [e] at h; exact absurd h (Int.lt_irrefl 0)
  | some w => rw [e] at h; exact ⟨w, rfl, h⟩
/-- a path with rooms -/
structure PO (p : Int) (rs : List (Int × Int × Int)) (φ : Int → Int → Int) (s : Int) (P : List Int) (x : Int) : Prop where
  hd : P.head? = some s
  ls : P.getLast? = some x
  nd : P.Nodup
  pt : ∀ y ∈ P, 0 ≤ y ∧ y < p
  rm : ∀ e ∈ sps P, 0 < rmv rs φ e.1 e.2
/-- what is found -/
structure FI (p : Int) (rs : List (Int × Int × Int)) (φ : Int → Int → Int) (s : Int) (F : List (Int × List Int)) : Prop where
  nd : (kys F).Nodup
  ok : ∀ q ∈ F, PO p rs φ s q.2 q.1 ∧ ∀ y ∈ q.2, y ∈ kys F
  st : s ∈ kys F
theorem FI.pt {p : Int} {rs : List (Int × Int × Int)} {φ : Int → Int → Int} {s : Int} {F : List (Int × List Int)} (i : FI p rs φ s F) {x : Int} (m : x ∈ kys F) : 0 ≤ x ∧ x < p := by
  obtain ⟨q, hq, rfl⟩ := List.mem_map.mp m
  have o := (i.ok q hq).1
  exact o.pt _ (List.mem_of_getLast? o.ls)
theorem FI.len {p : Int} {rs : List (Int × Int × Int)} {φ : Int → Int → Int} {s : Int} {F : List (Int × List Int)} (i : FI p rs φ s F) : F.length ≤ p.toNat := by
  have := nodup_le i.nd fun y m => i.pt m
  rwa [kys, List.length_map] at this
theorem fi_0 {p : Int} {rs : List (Int × Int × Int)} {φ : Int → Int → Int} {s : Int} (s0 : 0 ≤ s) (s1 : s < p) : FI p rs φ s [(s, [s])] := by
  refine ⟨by simp [kys], fun q m => ?_, by simp [kys]⟩
  rw [List.mem_singleton] at m
  subst m
  exact ⟨⟨rfl, rfl, by simp, fun y m => by rw [List.mem_singleton] at m; subst m; exact ⟨s0, s1⟩, fun e m => by cases m⟩, fun y m => by rw [List.mem_singleton] at m; subst m; simp [kys]⟩
theorem FI.add {p : Int} {rs : List (Int × Int × Int)} {φ : Int → Int → Int} {s : Int} {F : List (Int × List Int)} (i : FI p rs φ s F) {u v : Int} {P : List Int} (hu : lkP u F = some P) (v0 : 0 ≤ v) (v1 : v < p) (nv : v ∉ kys F) (hr : 0 < rmv rs φ u v) : FI p rs φ s (F ++ [(v, P ++ [v])]) := by
  have hk : kys (F ++ [(v, P ++ [v])]) = kys F ++ [v] := by simp [kys]
  have mu := lkP_mem hu
  have ou := i.ok _ mu
  refine ⟨?_, fun q m => ?_, by rw [hk]; exact List.mem_append_left _ i.st⟩
  · rw [hk, List.nodup_append]
    exact ⟨i.nd, by simp, fun a ha b hb e => by rw [List.mem_singleton] at hb; subst hb e; exact nv ha⟩
  · rw [hk]
    rcases List.mem_append.mp m with m | m
    · exact ⟨(i.ok q m).1, fun y hy => List.mem_append_left _ ((i.ok q m).2 y hy)⟩
    · rw [List.mem_singleton] at m
      subst m
      have ne : P ≠ [] := fun e => by have := ou.1.hd; rw [e] at this; cases this
      refine ⟨⟨?_, by simp, ?_, fun y hy => ?_, fun e he => ?_⟩, fun y hy => ?_⟩
      · have := ou.1.hd
        cases P with
        | nil => cases this
        | cons a P => exact this
      · rw [List.nodup_append]
        exact ⟨ou.1.nd, by simp, fun a ha b hb e => by rw [List.mem_singleton] at hb; subst hb e; exact nv (ou.2 _ ha)⟩
      · rcases List.mem_append.mp hy with h | h
        · exact ou.1.pt y h
        · rw [List.mem_singleton] at h; subst h; exact ⟨v0, v1⟩
      · simp only at he
        rw [sps_snoc P v ne] at he
        rcases List.mem_append.mp he with h | h
        · exact ou.1.rm e h
        · rw [List.mem_singleton] at h
          subst h
          have : P.getLast ne = u := by
            have := ou.1.ls
            rw [List.getLast?_eq_some_getLast ne] at this
            exact Option.some.inj this
          rw [this]
          exact hr
      · rcases List.mem_append.mp hy with h | h
        · exact List.mem_append_left _ (ou.2 y h)
        · exact List.mem_append_right _ h
/-- a point whose neighbours are found -/
def Cld (p : Int) (rs : List (Int × Int × Int)) (φ : Int → Int → Int) (E : List Int) (F : List (Int × List Int)) (x : Int) : Prop := x ∉ E ∧ ∀ y, 0 ≤ y → y < p → 0 < rmv rs φ x y → y ∈ kys F
def bfS (rs : List (Int × Int × Int)) (φ : Int → Int → Int) (u : Int) (P : List Int) (q : List (Int × List Int) × List Int) (v : Int) : List (Int × List Int) × List Int := if v ∉ kys q.1 ∧ 0 < rmv rs φ u v then (q.1 ++ [(v, P ++ [v])], q.2 ++ [v]) else q
/-- what holds while the neighbours of u are walked -/
structure BfI (p : Int) (rs : List (Int × Int × Int)) (φ : Int → Int → Int) (s : Int) (E : List Int) (u : Option Int) (F : List (Int × List Int)) (row : List Int) : Prop where
  fi : FI p rs φ s F
  rw : ∀ x ∈ row, x ∈ kys F
  cl : ∀ x ∈ kys F, x ∉ row → u ≠ some x → Cld p rs φ E F x
theorem bfS_ok {p : Int} {rs : List (Int × Int × Int)} {φ : Int → Int → Int} {s : Int} {E : List Int} {u : Int} {P : List Int} : ∀ (L : List Int) {F : List (Int × List Int)} {row : List Int}, (∀ v ∈ L, 0 ≤ v ∧ v < p) → BfI p rs φ s E (some u) F row → lkP u F = some P →
    BfI p rs φ s E (some u) (L.foldl (bfS rs φ u P) (F, row)).1 (L.foldl (bfS rs φ u P) (F, row)).2 ∧ lkP u (L.foldl (bfS rs φ u P) (F, row)).1 = some P ∧ (∀ x ∈ kys F, x ∈ kys (L.foldl (bfS rs φ u P) (F, row)).1) ∧ (∀ v ∈ L, 0 < rmv rs φ u v → v ∈ kys (L.foldl (bfS rs φ u P) (F, row)).1) ∧ (L.foldl (bfS rs φ u P) (F, row)).1.length + row.length = F.length + (L.foldl (bfS rs φ u P) (F, row)).2.length ∧ F.length ≤ (L.foldl (bfS rs φ u P) (F, row)).1.length
  | [], F, row, _, b, hu => ⟨b, hu, fun _ m => m, fun _ m => (by cases m), rfl, Nat.le_refl _⟩
  | v :: L, F, row, hL, b, hu => by
    rw [List.foldl_cons]
    have z := hL v (List.mem_cons_self ..)
    by_cases c : v ∉ kys F ∧ 0 < rmv rs φ u v
    · have e : bfS rs φ u P (F, row) v = (F ++ [(v, P ++ [v])], row ++ [v]) := if_pos c
      rw [e]
      have hk : kys (F ++ [(v, P ++ [v])]) = kys F ++ [v] := by simp [kys]
      have b' : BfI p rs φ s E (some u) (F ++ [(v, P ++ [v])]) (row ++ [v]) := by
        refine ⟨b.fi.add hu z.1 z.2 c.1 c.2, fun x m => ?_, fun x m n1 n2 => ?_⟩
        · rw [hk]
          rcases List.mem_append.mp m with m | m
          · exact List.mem_append_left _ (b.rw x m)
          · exact List.mem_append_right _ m
        · rw [hk] at m
          have n3 : x ∉ row := fun h => n1 (List.mem_append_left _ h)
          have n4 : x ≠ v := fun h => n1 (List.mem_append_right _ (by rw [h]; simp))
          have m2 : x ∈ kys F := by
            rcases List.mem_append.mp m with m | m
            · exact m
            · rw [List.mem_singleton] at m; exact (n4 m).elim
          obtain ⟨d1, d2⟩ := b.cl x m2 n3 n2
          exact ⟨d1, fun y y0 y1 hy => by rw [hk]; exact List.mem_append_left _ (d2 y y0 y1 hy)⟩
      have hu' : lkP u (F ++ [(v, P ++ [v])]) = some P := by rw [lkP_app, hu]
      obtain ⟨a1, a2, a3, a4, a5, a6⟩ := bfS_ok L (fun w m => hL w (List.mem_cons_of_mem _ m)) b' hu'
      refine ⟨a1, a2, fun x m => a3 x (by rw [hk]; exact List.mem_append_left _ m), fun w m hw => ?_, ?_, ?_⟩
      · rcases List.mem_cons.mp m with rfl | m
        · exact a3 w (by rw [hk]; simp)
        · exact a4 w m hw
      · simp only [List.length_append, List.length_singleton] at a5
        omega
      · simp only [List.length_append, List.length_singleton] at a6
        omega
    · have e : bfS rs φ u P (F, row) v = (F, row) := if_neg c
      rw [e]
      obtain ⟨a1, a2, a3, a4, a5, a6⟩ := bfS_ok L (fun w m => hL w (List.mem_cons_of_mem _ m)) b hu
      refine ⟨a1, a2, a3, fun w m hw => ?_, a5, a6⟩
      rcases List.mem_cons.mp m with rfl | m
      · by_cases k : w ∈ kys F
        · exact a3 w k
        · exact (c ⟨k, hw⟩).elim
      · exact a4 w m hw
/-- one round -/
theorem BfI.round {p : Int} {rs : List (Int × Int × Int)} {φ : Int → Int → Int} {s : Int} {E : List Int} {u : Int} {P : List Int} {F : List (Int × List Int)} {row : List Int} (b : BfI p rs φ s E none F (u :: row)) (hu : lkP u F = some P) (ue : u ∉ E) :
    BfI p rs φ s E none ((rgI 0 p).foldl (bfS rs φ u P) (F, row)).1 ((rgI 0 p).foldl (bfS rs φ u P) (F, row)).2 ∧ 2 * (p.toNat - ((rgI 0 p).foldl (bfS rs φ u P) (F, row)).1.length) + ((rgI 0 p).foldl (bfS rs φ u P) (F, row)).2.length + 1 ≤ 2 * (p.toNat - F.length) + (u :: row).length := by
  have b0 : BfI p rs φ s E (some u) F row := ⟨b.fi, fun x m => b.rw x (List.mem_cons_of_mem _ m), fun x m n1 n2 => b.cl x m (fun h => by
    rcases List.mem_cons.mp h with rfl | h
    · exact n2 rfl
    · exact n1 h) (by simp)⟩
  obtain ⟨a1, a2, a3, a4, a5, a6⟩ := bfS_ok (rgI 0 p) (fun v m => mem_rgI.mp m) b0 hu
  have l1 := b.fi.len
  have l2 := a1.fi.len
  refine ⟨⟨a1.fi, a1.rw, fun x m n1 _ => ?_⟩, ?_⟩
  · by_cases e : x = u
    · subst e
      exact ⟨ue, fun y y0 y1 hy => a4 y (mem_rgI.mpr ⟨y0, y1⟩) hy⟩
    · exact a1.cl x m n1 fun h => e (Option.some.inj h).symm
  · rw [List.length_cons]
    omega
theorem whl_rt {c : Env → AH → R DF} {body : Env → AH → O} {n : Nat} {env : Env} {h h2 : AH} {d d2 : DF} (hc : c env h = .ok d h) (ht : tru h d.1 = some true) (hb : body env h = .rt d2.1 d2.2 h2) : whlEv c body (n + 1) env h = .rt d2.1 d2.2 h2 := by
  show (c env h).o env _ = _
  rw [hc, o_ok, ht]
  show (body env h).loop _ = _
  rw [hb]
  rfl
theorem lc_gm {α β : Type} {body : D → AH → R (Option β)} {h : AH} {f : α → D} {g : α → β} {xs : List α} (e : ∀ a ∈ xs, body (f a) h = .ok (some (g a)) h) : lcEv body (xs.map f) h = .ok (xs.map g) h := by
  induction xs with
  | nil => rfl
  | cons x xs ih =>
    rw [List.map_cons, List.map_cons]
    unfold lcEv
    rw [e x (List.mem_cons_self ..), b_ok, ih fun a m => e a (List.mem_cons_of_mem _ m), b_ok]
theorem sps_rg : ∀ (P : List Int), sps P = (rgI 0 ((P.length : Int) - 1)).map fun i => (at' P i, at' P (i + 1))
  | [] => rfl
  | [x] => rfl
  | x :: y :: r => by
    show (x, y) :: sps (y :: r) = _
    have e : ((x :: y :: r).length : Int) - 1 = ((y :: r).length : Int) - 1 + 1 := by simp only [List.length_cons]; omega
    have c : rgI 0 (((y :: r).length : Int) - 1 + 1) = 0 :: (rgI 0 (((y :: r).length : Int) - 1)).map fun x => x + 1 := by
      rw [rgI_cons (by simp only [List.length_cons]; omega), rgI_shift]
    rw [sps_rg (y :: r), e, c, List.map_cons, List.map_map]
    congr 1
    apply List.map_congr_left
    intro i m
    obtain ⟨i0, i1⟩ := mem_rgI.mp m
    simp only [Function.comp]
    rw [at_cons x (y :: r) i0, at_cons x (y :: r) (by omega)]
theorem sl_two {h : AH} {P : List Int} {i : Int} (h0 : 0 ≤ i) (h1 : i + 1 < P.length) : slEv h (tint P) (some i) (some (i + 2)) = some (prD (at' P i, at' P (i + 1)), false) := by
  obtain ⟨n, rfl⟩ : ∃ n : Nat, i = n := ⟨i.toNat, by omega⟩
  have a : n < P.length := by omega
  have b : n + 1 < P.length := by omega
  have e : cut (P.map D.int) (some (n : Int)) (some ((n : Int) + 2)) = [.int P[n], .int P[n + 1]] := by
    have c1 : cutIx (P.map D.int).length 0 (some (n : Int)) = n := by
      unfold cutIx
      simp only [List.length_map]
      rw [if_neg (by omega)]
      omega
    have c2 : cutIx (P.map D.int).length (P.map D.int).length (some ((n : Int) + 2)) = n + 2 := by
      unfold cutIx
      simp only [List.length_map]
      rw [if_neg (by omega)]
      omega
    unfold cut
    rw [c1, c2, show n + 2 - n = 2 by omega, List.drop_eq_getElem_cons (by rw [List.length_map]; exact a), List.drop_eq_getElem_cons (by rw [List.length_map]; exact b), List.getElem_map, List.getElem_map]
    rfl
  have e1 : at' P (n : Int) = P[n] := by simp [at', List.getD, a]
  have e2 : at' P ((n : Int) + 1) = P[n + 1] := by
    have : ((n : Int) + 1).toNat = n + 1 := by omega
    simp [at', List.getD, this, b]
  show some (D.tup (cut (P.map D.int) (some (n : Int)) (some ((n : Int) + 2))), false) = _
  rw [e, e1, e2]
theorem wid_le6 {p : Int} : ∀ {rs : List (Int × Int × Int)}, ROk p rs → ∀ f : List Int, wid rs f ≤ 6 * (rs.length : Int)
  | [], _, f => by simp [wid]
  | r :: rs, o, f => by
    have := o.pt r (List.mem_cons_self ..)
    have ih := wid_le6 o.tail f
    rw [wid_cons, List.length_cons]
    split <;> omega
theorem Flow.bnd {p : Int} {rs : List (Int × Int × Int)} (o : ROk p rs) {s t v : Int} {φ : Int → Int → Int} (F : Flow p rs s t φ v) (s0 : 0 ≤ s) (s1 : s < p) (st : s ≠ t) : v ≤ 6 * (rs.length : Int) := by
  refine Int.le_trans (F.le o s0 s1 (f := [s]) ?_) (wid_le6 o [s])
  have : t ≠ s := fun e => st e.symm
  simp [this]
/-- the greatest flow: no path is left -/
theorem Flow.eq_lst {p : Int} {rs : List (Int × Int × Int)} (o : ROk p rs) {s t v : Int} {φ : Int → Int → Int} (F : Flow p rs s t φ v) (s0 : 0 ≤ s) (s1 : s < p) (t0 : 0 ≤ t) (t1 : t < p) (p1 : 1 ≤ p) {G : List (Int × List Int)} (b : BfI p rs φ s [t] none G []) : v = lstN p rs [(s, t)] := by
  have ht : t ∉ kys G := fun h => (b.cl t h (by simp) (by simp)).1 (by simp)
  obtain ⟨f, mf, hc, hw⟩ := F.least o s0 s1 t0 t1 (fun x => decide (x ∈ kys G)) (by simpa using b.fi.st) (by simpa using ht) (fun x y w h hx hy => by
    have hx : x ∈ kys G := by simpa using hx
    have hy : y ∉ kys G := by simpa using hy
    have z := o.wd_pt h
    have c := (b.cl x hx (by simp) (by simp)).2 y z.2.2.1 z.2.2.2.1
    rcases Int.lt_or_le 0 (w - φ x y) with q | q
    · exact (hy (c (by unfold rmv; rw [h]; exact q))).elim
    · exact q)
  symm
  unfold lstN
  refine minI_eq (List.mem_map.mpr ⟨f, List.mem_filter.mpr ⟨mf, ?_⟩, hw⟩) fun y m => ?_
  · simp only [List.all_cons, List.all_nil, Bool.and_true, crP, bne_iff_ne]
    exact hc
  · obtain ⟨g, mg, rfl⟩ := List.mem_map.mp m
    have cg := (List.mem_filter.mp mg).2
    simp only [List.all_cons, List.all_nil, Bool.and_true, crP, bne_iff_ne] at cg
    exact F.le o s0 s1 cg
end Rw
end

section
set_option Elab.async false
set_option linter.all false
set_option maxRecDepth 100000
set_option maxHeartbeats 4000000
/-! RfB11: least fences of changed nets; a road put in; drawn nets. -/
namespace Rw
theorem zip_rg {α β : Type} [Inhabited α] (f : α → Int → β) (xs : List α) : xs.zipIdx.map (fun q => f q.1 (q.2 : Int)) = (rgI 0 (xs.length : Int)).map fun i => f (at' xs i) i := by
  apply List.ext_getElem
  · rw [List.length_map, List.length_map, List.length_zipIdx, rgI_len]; omega
  · intro i h1 h2
    rw [List.length_map, List.length_zipIdx] at h1
    have : at' (rgI 0 (xs.length : Int)) (i : Int) = 0 + (i : Int) := at_rgI (by omega) (by omega)
    have hr : i < (rgI 0 (xs.length : Int)).length := by rw [rgI_len]; omega
    have e : (rgI 0 (xs.length : Int))[i] = (i : Int) := by
      have q : at' (rgI 0 (xs.length : Int)) (i : Int) = (rgI 0 (xs.length : Int))[i] := by simp [at', List.getD, hr]
      rw [← q, this, Int.zero_add]
    rw [List.getElem_map, List.getElem_map, List.getElem_zipIdx, e]
    simp [at', List.getD, h1]
theorem enL_at {α : Type} [Inhabited α] (f : α → D) (xs : List α) : enL (xs.map f) 0 = (rgI 0 (xs.length : Int)).map fun i => D.tup [.int i, f (at' xs i)] := by
  rw [enL_map]
  exact zip_rg (fun x i => D.tup [.int i, f x]) xs
theorem lc_gf {α β : Type} {body : D → AH → R (Option β)} {h : AH} {f : α → D} {c : α → Bool} {g : α → β} {xs : List α} (e : ∀ a ∈ xs, body (f a) h = .ok (if c a then some (g a) else none) h) : lcEv body (xs.map f) h = .ok ((xs.filter c).map g) h := by
  induction xs with
  | nil => rfl
  | cons x xs ih =>
    have ih := ih fun a m => e a (List.mem_cons_of_mem _ m)
    rw [List.map_cons]
    unfold lcEv
    rw [e x (List.mem_cons_self ..), b_ok, ih, b_ok]
    cases q : c x
    · rw [List.filter_cons_of_neg (by simp [q])]; rfl
    · rw [List.filter_cons_of_pos q]; rfl
def pkD (c : Int → Bool) : D → List D
  | .int i => if c i then [.int i] else []
  | _ => []
theorem flat_int (c : Int → Bool) (l : List Int) : (l.map D.int).flatMap (pkD c) = (l.filter c).map .int := by
  induction l with
  | nil => rfl
  | cons x l ih =>
    rw [List.map_cons, List.flatMap_cons, ih]
    show (if c x then [D.int x] else []) ++ _ = _
    cases q : c x
    · rw [List.filter_cons_of_neg (by simp [q])]; simp
    · rw [List.filter_cons_of_pos q]; simp
/-- the least width, where widths get less by 1 -/
theorem lst_m1 {p : Int} {rs rs' : List (Int × Int × Int)} {qs : List (Int × Int)} {c : List Int → Bool} (ne : cutN p qs ≠ []) (h : ∀ f, wid rs' f = wid rs f + if c f then -1 else 0) : lstN p rs' qs = lstN p rs qs + if (lfsN p rs qs).any c then -1 else 0 := by
  have d := lst_chg (p := p) (rs := rs) (rs' := rs') (qs := qs) (.inr rfl : (-1 : Int) = 1 ∨ (-1 : Int) = -1) ne fun f => by
    have := h f
    split at this <;> omega
  by_cases a : (lfsN p rs qs).any c = true
  · obtain ⟨f, m, hc⟩ := List.any_eq_true.mp a
    obtain ⟨m1, m2⟩ := List.mem_filter.mp m
    have l := lst_le (rs := rs') m1
    have w := h f
    rw [if_pos hc] at w
    have m2 : wid rs f = lstN p rs qs := by simpa using m2
    rw [if_pos a]
    omega
  · rw [if_neg a]
    obtain ⟨f, m, e⟩ := lfs_ne p rs' qs ne
    have l := lst_le (rs := rs) m
    have w := h f
    by_cases q : wid rs f = lstN p rs qs
    · have hc : c f = false := by
        cases z : c f with
        | false => rfl
        | true => exact (a (List.any_eq_true.mpr ⟨f, List.mem_filter.mpr ⟨m, by simpa using q⟩, z⟩)).elim
      rw [hc] at w
      simp at w
      omega
    · split at w <;> omega
/-- and more by 1 -/
theorem lst_p1 {p : Int} {rs rs' : List (Int × Int × Int)} {qs : List (Int × Int)} {c : List Int → Bool} (ne : cutN p qs ≠ []) (h : ∀ f, wid rs' f = wid rs f + if c f then 1 else 0) : lstN p rs' qs = lstN p rs qs + if (lfsN p rs qs).all c then 1 else 0 := by
  have d := lst_chg (p := p) (rs := rs) (rs' := rs') (qs := qs) (.inl rfl : (1 : Int) = 1 ∨ (1 : Int) = -1) ne fun f => by
    have := h f
    split at this <;> omega
  by_cases a : (lfsN p rs qs).all c = true
  · rw [if_pos a]
    obtain ⟨f, m, e⟩ := lfs_ne p rs' qs ne
    have l := lst_le (rs := rs) m
    have w := h f
    by_cases q : wid rs f = lstN p rs qs
    · have hc := List.all_eq_true.mp a f (List.mem_filter.mpr ⟨m, by simpa using q⟩)
      rw [if_pos hc] at w
      omega
    · split at w <;> omega
  · rw [if_neg a]
    have a' : (lfsN p rs qs).all c = false := by simpa using a
    obtain ⟨f, m, hc⟩ := List.all_eq_false.mp a'
    obtain ⟨m1, m2⟩ := List.mem_filter.mp m
    have l := lst_le (rs := rs') m1
    have w := h f
    rw [if_neg hc] at w
    have m2 : wid rs f = lstN p rs qs := by simpa using m2
    omega
theorem pw_two {α : Type} {P : α → α → Prop} : ∀ {l : List α}, l.Pairwise P → ∀ {x y : α}, x ∈ l → y ∈ l → x ≠ y → P x y ∨ P y x
  | z :: l, h, x, y, hx, hy, ne => by
    obtain ⟨h1, h2⟩ := List.pairwise_cons.mp h
    rcases List.mem_cons.mp hx with ex | hx'
    · rcases List.mem_cons.mp hy with ey | hy'
      · exact (ne (ex.trans ey.symm)).elim
      · exact .inl (ex ▸ h1 y hy')
    · rcases List.mem_cons.mp hy with ey | hy'
      · exact .inr (ey ▸ h1 x hx')
      · exact pw_two h2 hx' hy' ne
/-! ### links sorted -/
def ltR (a b : Int × Int × Int) : Bool := decide (a.1 < b.1 ∨ (a.1 = b.1 ∧ (a.2.1 < b.2.1 ∨ (a.2.1 = b.2.1 ∧ a.2.2 < b.2.2))))
theorem ltR_ok : LtOk ltR := by
  refine ⟨fun a => ?_, fun a b c h1 h2 => ?_, fun a b h => ?_⟩
  · unfold ltR; rw [decide_eq_false_iff_not]; omega
  · unfold ltR at *; rw [decide_eq_true_eq] at *; omega
  · unfold ltR
    rw [decide_eq_true_eq, decide_eq_true_eq]
    have : ¬ (a.1 = b.1 ∧ a.2.1 = b.2.1 ∧ a.2.2 = b.2.2) := fun z => h (Prod.ext z.1 (Prod.ext z.2.1 z.2.2))
    omega
theorem dlt_rd (a b : Int × Int × Int) : dlt (rd a) (rd b) = ltR a b := by
  show (if (a.1 == b.1) = true then (if (a.2.1 == b.2.1) = true then (if (a.2.2 == b.2.2) = true then false else decide (a.2.2 < b.2.2)) else decide (a.2.1 < b.2.1)) else decide (a.1 < b.1)) = _
  unfold ltR
  by_cases h : a.1 = b.1
  · by_cases h2 : a.2.1 = b.2.1
    · by_cases h3 : a.2.2 = b.2.2
      · simp [h, h2, h3]
      · simp [h, h2, h3]
    · simp [h, h2]
  · simp [h]
theorem bi_sortRd (h : AH) {xs : List (Int × Int × Int)} (hl : xs.length ≤ LN) : biEv .sorted h [.tup (xs.map rd)] = some (.lst ((srtB ltR xs).map rd), true) := by
  have l : decide ((xs.map rd).length ≤ LN) = true := by simpa using hl
  have e : dsort (xs.map rd) = (srtB ltR xs).map rd := dsort_map fun _ _ _ _ => dlt_rd _ _
  have s : sortable (xs.map rd) = true := by simp [sortable, tys, Ty.has]
  simp only [biEv, stems, litems, Option.bind_some, s, l, Bool.and_self, if_true, e]
theorem wid_ins (x : Int × Int × Int) (f : List Int) : ∀ ys : List (Int × Int × Int), wid (insB ltR x ys) f = wid (x :: ys) f
  | [] => rfl
  | y :: ys => by
    unfold insB
    split
    · rw [wid_cons, wid_ins x f ys, wid_cons, wid_cons, wid_cons]; omega
    · rfl
theorem wid_srt (f : List Int) : ∀ xs : List (Int × Int × Int), wid (srtB ltR xs) f = wid xs f
  | [] => rfl
  | x :: xs => by
    show wid (insB ltR x (srtB ltR xs)) f = _
    rw [wid_ins, wid_cons, wid_srt f xs, wid_cons]
/-- a road put in -/
theorem put_lks {p m : Int} {rs : List (Int × Int × Int)} (g : areLks p rs m = true) {a b : Int} (h0 : 0 ≤ a) (h1 : a < b) (h2 : b < p) (hn : (a, b) ∉ rs.map fun r => (r.1, r.2.1)) (hl : (rs.length : Int) < m) : areLks p (srtB ltR (rs ++ [(a, b, 1)])) m = true := by
  rw [areLks_iff] at g ⊢
  obtain ⟨g1, g2, g3⟩ := g
  have nd : (rs ++ [(a, b, 1)]).Nodup := by
    rw [List.nodup_append]
    refine ⟨g3.imp fun {x y} h e => ?_, by simp, fun x hx y hy e => ?_⟩
    · subst e
      simp only [prLt, Bool.or_eq_true, Bool.and_eq_true, decide_eq_true_eq, beq_iff_eq] at h
      omega
    · rw [List.mem_singleton] at hy
      subst hy e
      exact hn (List.mem_map.mpr ⟨_, hx, rfl⟩)
  have pw := srtB_pw ltR_ok nd
  refine ⟨by rw [srtB_len, List.length_append, List.length_singleton]; omega, fun r hr => ?_, ?_⟩
  · rcases List.mem_append.mp (mem_srtB.mp hr) with h | h
    · exact g2 r h
    · rw [List.mem_singleton] at h
      subst h
      simp only [isLk, Bool.and_eq_true, decide_eq_true_eq]
      refine ⟨⟨⟨⟨⟨⟨?_, ?_⟩, ?_⟩, ?_⟩, ?_⟩, ?_⟩, ?_⟩ <;> omega
  · refine List.Pairwise.imp_of_mem (fun {x y} hx hy h => ?_) pw
    have hx := mem_srtB.mp hx
    have hy := mem_srtB.mp hy
    have df : ¬ (x.1 = y.1 ∧ x.2.1 = y.2.1) ∨ x = y := by
      rcases List.mem_append.mp hx with hx | hx <;> rcases List.mem_append.mp hy with hy | hy
      · by_cases e : x = y
        · exact .inr e
        · refine .inl fun z => ?_
          rcases pw_two g3 hx hy e with q | q
          · simp only [prLt, Bool.or_eq_true, Bool.and_eq_true, decide_eq_true_eq, beq_iff_eq] at q
            omega
          · simp only [prLt, Bool.or_eq_true, Bool.and_eq_true, decide_eq_true_eq, beq_iff_eq] at q
            omega
      · rw [List.mem_singleton] at hy
        subst hy
        exact .inl fun z => hn (List.mem_map.mpr ⟨x, hx, Prod.ext z.1 z.2⟩)
      · rw [List.mem_singleton] at hx
        subst hx
        exact .inl fun z => hn (List.mem_map.mpr ⟨y, hy, Prod.ext z.1.symm z.2.symm⟩)
      · rw [List.mem_singleton] at hx hy
        exact .inr (hx.trans hy.symm)
    unfold ltR at h
    rw [decide_eq_true_eq] at h
    simp only [prLt, Bool.or_eq_true, Bool.and_eq_true, decide_eq_true_eq, beq_iff_eq]
    rcases df with df | rfl
    · omega
    · omega
/-! ### drawn nets, pair by pair -/
structure NI (p : Int) (qs : List (Int × Int)) (rs : List (Int × Int × Int)) : Prop where
  ok : ∀ r ∈ rs, isLk p r = true
  pw : rs.Pairwise fun x y => prLt x y = true
  len : rs.length ≤ 15
  low : ∀ r ∈ rs, ∀ q ∈ qs, qLt (r.1, r.2.1) q
theorem NI.skip {p : Int} {q : Int × Int} {qs : List (Int × Int)} {rs : List (Int × Int × Int)} (i : NI p (q :: qs) rs) : NI p qs rs := ⟨i.ok, i.pw, i.len, fun r m x hx => i.low r m x (List.mem_cons_of_mem _ hx)⟩
theorem NI.app {p : Int} {q : Int × Int} {qs : List (Int × Int)} {rs : List (Int × Int × Int)} (i : NI p (q :: qs) rs) (g : 0 ≤ q.1 ∧ q.1 < q.2 ∧ q.2 < p) (hq : ∀ x ∈ qs, qLt q x) (l : rs.length < 15) {w : Int} (w1 : 1 ≤ w) (w6 : w ≤ 6) : NI p qs (rs ++ [(q.1, q.2, w)]) := by
  refine ⟨fun r m => ?_, ?_, by rw [List.length_append, List.length_singleton]; omega, fun r m x hx => ?_⟩
  · rcases List.mem_append.mp m with m | m
    · exact i.ok r m
    · rw [List.mem_singleton] at m
      subst m
      simp only [isLk, Bool.and_eq_true, decide_eq_true_eq]
      refine ⟨⟨⟨⟨⟨⟨?_, ?_⟩, ?_⟩, ?_⟩, ?_⟩, ?_⟩, ?_⟩ <;> omega
  · rw [List.pairwise_append]
    refine ⟨i.pw, by simp, fun r m y hy => ?_⟩
    rw [List.mem_singleton] at hy
    subst hy
    have := i.low r m q (List.mem_cons_self ..)
    unfold qLt at this
    simp only [prLt, Bool.or_eq_true, Bool.and_eq_true, decide_eq_true_eq, beq_iff_eq]
    exact this
  · rcases List.mem_append.mp m with m | m
    · exact i.low r m x (List.mem_cons_of_mem _ hx)
    · rw [List.mem_singleton] at m
      subst m
      exact hq x hx
theorem NI.lks {p : Int} {qs : List (Int × Int)} {rs : List (Int × Int × Int)} (i : NI p qs rs) : areLks p rs 15 = true := by
  rw [areLks_iff]
  exact ⟨by have := i.len; omega, i.ok, i.pw⟩
theorem prs_lenB {p : Int} (h0 : 2 ≤ p) (h1 : p ≤ 7) : 1 ≤ (prs p).length ∧ (prs p).length ≤ 21 := by
  have c : p = 2 ∨ p = 3 ∨ p = 4 ∨ p = 5 ∨ p = 6 ∨ p = 7 := by omega
  rcases c with rfl | rfl | rfl | rfl | rfl | rfl <;> decide
end Rw
end

section
set_option Elab.async false
set_option linter.all false
set_option maxRecDepth 100000
set_option maxHeartbeats 4000000
/-! RfB12: a flow taken apart into paths; what the paths carry over least fences. -/
namespace Rw
/-- less along a path -/
theorem Flow.pull {p : Int} {rs : List (Int × Int × Int)} (o : ROk p rs) {s t v : Int} {φ : Int → Int → Int} (F : Flow p rs s t φ v) (st : s ≠ t) {P : List Int} (nd : P.Nodup) (hne : P ≠ []) (hs : P.head hne = s) (ht : P.getLast hne = t) {m : Int} (m0 : 0 ≤ m) (hw : ∀ e ∈ sps P, (wd rs e.1 e.2).isSome = true ∧ m ≤ φ e.1 e.2) :
    Flow p rs s t ((sps P).foldl (stp (-m)) φ) (v - m) := by
  have so : ∀ e ∈ sps P, (wd rs e.1 e.2).isSome = true := fun e he => (hw e he).1
  refine ⟨fun x y => ?_, fun x y w h => ?_, fun z h1 h2 => ?_, ?_⟩
  · rw [fold_stp (-m) nd, fold_stp (-m) nd]
    have := F.as x y
    omega
  · rw [fold_stp (-m) nd]
    have c := F.cap x y w h
    have z := o.wd_pt h
    by_cases a : (y, x) ∈ sps P
    · have l := (hw _ a).2
      simp only at l
      have := F.as x y
      rw [if_pos a]
      split <;> omega
    · rw [if_neg a]
      split <;> omega
  · rw [outp_path o (-m) P hne _ z so, hs, ht, if_neg h1, if_neg h2, F.mid z h1 h2]
    rfl
  · rw [outp_path o (-m) P hne _ s so, hs, ht, if_pos rfl, if_neg st, F.out]
    omega
def stq (m : Int) (χ : Int → Int → Int) (e : Int × Int) : Int → Int → Int := fun a b => if a = e.1 ∧ b = e.2 then χ a b + m else χ a b
theorem DOk.stq {p : Int} {rs : List (Int × Int × Int)} (o : ROk p rs) {χ : Int → Int → Int} {f : List (List Int × D)} (d : DOk rs χ f) {x y w : Int} (h : wd rs x y = some w) (m : Int) :
    DOk rs (stq m χ (x, y)) (putT [x, y] (.int (w - χ x y - m)) f) := by
  refine ⟨fun a b => ?_, d.int.put _ _, ?_⟩
  · unfold Rw.stq
    simp only
    rw [lookT_put, d.look]
    by_cases c1 : a = x ∧ b = y
    · obtain ⟨rfl, rfl⟩ := c1
      rw [if_pos rfl, if_pos ⟨rfl, rfl⟩, h]
      show some _ = some _
      congr 2
      omega
    · rw [if_neg (by simp only [List.cons.injEq, and_true]; omega), if_neg c1]
  · rw [putT_lenI (by rw [d.look, h]; rfl)]
    exact d.len
theorem fold_stq (m : Int) : ∀ {P : List Int}, P.Nodup → ∀ (χ : Int → Int → Int) (a b : Int), (sps P).foldl (stq m) χ a b = χ a b + (if (a, b) ∈ sps P then m else 0)
  | [], _, χ, a, b => by simp [sps]
  | [x], _, χ, a, b => by simp [sps]
  | x :: y :: r, nd, χ, a, b => by
    unfold sps
    rw [List.foldl_cons, fold_stq m (List.nodup_cons.mp nd).2]
    have nx := (List.nodup_cons.mp nd).1
    have n1 : ∀ c, (x, c) ∉ sps (y :: r) := fun c h => nx (sps_mem h).1
    unfold stq
    simp only [List.mem_cons, Prod.mk.injEq]
    by_cases c1 : a = x ∧ b = y
    · obtain ⟨rfl, rfl⟩ := c1
      simp [n1]
    · simp only [c1, if_false, false_or]
/-- the dict carries what flows -/
def CR (rs : List (Int × Int × Int)) (χ φ : Int → Int → Int) : Prop := ∀ x y w, wd rs x y = some w → max (w - χ x y) 0 = max (φ x y) 0
theorem CR.pull {p : Int} {rs : List (Int × Int × Int)} {χ φ : Int → Int → Int} (c : CR rs χ φ) {s t v : Int} (F : Flow p rs s t φ v) {P : List Int} (nd : P.Nodup) {m : Int} (m1 : 1 ≤ m) (hw : ∀ e ∈ sps P, ∀ w, wd rs e.1 e.2 = some w → m ≤ w - χ e.1 e.2) : CR rs ((sps P).foldl (stq m) χ) ((sps P).foldl (stp (-m)) φ) := by
  intro x y w h
  rw [fold_stq m nd, fold_stp (-m) nd]
  have a := c x y w h
  have h' : wd rs y x = some w := by rw [wd_sym]; exact h
  have a' := c y x w h'
  have as := F.as x y
  by_cases q1 : (x, y) ∈ sps P
  · have l := hw _ q1 w h
    simp only at l
    have q2 : (y, x) ∉ sps P := fun q2 => by
      have l' := hw _ q2 w h'
      simp only at l'
      omega
    rw [if_pos q1, if_pos q1, if_neg q2]
    omega
  · by_cases q2 : (y, x) ∈ sps P
    · have l' := hw _ q2 w h'
      simp only at l'
      rw [if_neg q1, if_neg q1, if_pos q2]
      omega
    · rw [if_neg q1, if_neg q1, if_neg q2]
      omega
/-- something flows: a path -/
theorem CR.path {p : Int} {rs : List (Int × Int × Int)} (o : ROk p rs) {χ φ : Int → Int → Int} (c : CR rs χ φ) {s t v : Int} (F : Flow p rs s t φ v) (s0 : 0 ≤ s) (s1 : s < p) (v1 : 0 < v) {G : List (Int × List Int)} (b : BfI p rs χ s [t] none G []) : False := by
  have ht : t ∉ kys G := fun h => (b.cl t h (by simp) (by simp)).1 (by simp)
  have e := over_eq o F (fun x => decide (x ∈ kys G)) s0 s1 (by simpa using b.fi.st) (by simpa using ht)
  have key : ∀ qs : List (Int × Int × Int), (∀ r ∈ qs, r ∈ rs) → over qs φ (fun x => decide (x ∈ kys G)) ≤ 0 := by
    intro qs
    induction qs with
    | nil => intro _; exact Int.le_refl 0
    | cons r qs ih =>
      intro hq
      have i := ih fun q m => hq q (List.mem_cons_of_mem _ m)
      have hr := hq r (List.mem_cons_self ..)
      have z := o.pt r hr
      have w1 := o.wd_of r hr
      have w2 : wd rs r.2.1 r.1 = some r.2.2 := by rw [wd_sym]; exact w1
      have a := F.as r.1 r.2.1
      have n : ∀ x y, wd rs x y = some r.2.2 → x ∈ kys G → y ∉ kys G → φ x y ≤ 0 := fun x y hw hx hy => by
        have zz := o.wd_pt hw
        have cl := (b.cl x hx (by simp) (by simp)).2 y zz.2.2.1 zz.2.2.2.1
        have cc := c x y _ hw
        rcases Int.lt_or_le 0 (φ x y) with q | q
        · exact (hy (cl (by unfold rmv; rw [hw]; show 0 < r.2.2 - χ x y; omega))).elim
        · exact q
      rw [over_cons]
      by_cases h1 : r.1 ∈ kys G <;> by_cases h2 : r.2.1 ∈ kys G
      · simp only [h1, h2, decide_true, if_true]; omega
      · have := n _ _ w1 h1 h2
        simp only [h1, h2, decide_true, decide_false, if_true, Bool.false_eq_true, if_false]; omega
      · have := n _ _ w2 h2 h1
        simp only [h1, h2, decide_true, decide_false, if_true, Bool.false_eq_true, if_false]; omega
      · simp only [h1, h2, decide_false, Bool.false_eq_true, if_false]; omega
  have := key rs fun r m => m
  omega
/-! ### bundles -/
/-- a path goes along a road -/
def goB (P : List Int) (r : Int × Int × Int) : Bool := (sps P).any fun e => mt r e.1 e.2
theorem goB_iff {p : Int} {rs : List (Int × Int × Int)} {P : List Int} {r : Int × Int × Int} : goB P r = true ↔ (r.1, r.2.1) ∈ sps P ∨ (r.2.1, r.1) ∈ sps P := by
  unfold goB
  rw [List.any_eq_true]
  constructor
  · rintro ⟨e, m, h⟩
    rw [mt_iff] at h
    rcases h with ⟨a, b⟩ | ⟨a, b⟩
    · exact .inl (by rw [a, b]; exact m)
    · exact .inr (by rw [a, b]; exact m)
  · rintro (m | m)
    · exact ⟨_, m, by simp [mt]⟩
    · exact ⟨_, m, by simp [mt]⟩
def carr : List (List Int × Int) → (Int × Int × Int) → Int
  | [], _ => 0
  | b :: B, r => (if goB b.1 r then b.2 else 0) + carr B r
theorem carr_app (B : List (List Int × Int)) (b : List Int × Int) (r : Int × Int × Int) : carr (B ++ [b]) r = carr B r + if goB b.1 r then b.2 else 0 := by
  induction B with
  | nil => show _ + (0 : Int) = 0 + _; omega
  | cons a B ih =>
    show _ + carr (B ++ [b]) r = _ + carr B r + _
    rw [ih]; omega
theorem carr_sum (B : List (List Int × Int)) (r : Int × Int × Int) : ((B.filter fun b => goB b.1 r).map fun b => b.2).sum = carr B r := by
  induction B with
  | nil => rfl
  | cons b B ih =>
    show _ = _ + carr B r
    cases q : goB b.1 r
    · rw [List.filter_cons_of_neg (p := fun b : List Int × Int => goB b.1 r) (by simp [q]), ih]; simp
    · rw [List.filter_cons_of_pos (p := fun b : List Int × Int => goB b.1 r) q, List.map_cons, List.sum_cons, ih]; simp
/-- a simple path along roads -/
structure PA (p : Int) (rs : List (Int × Int × Int)) (s t : Int) (P : List Int) : Prop where
  hd : P.head? = some s
  ls : P.getLast? = some t
  nd : P.Nodup
  pt : ∀ y ∈ P, 0 ≤ y ∧ y < p
  jn : ∀ e ∈ sps P, (wd rs e.1 e.2).isSome = true
structure BU (p : Int) (rs : List (Int × Int × Int)) (s t v : Int) (B : List (List Int × Int)) : Prop where
  pa : ∀ b ∈ B, PA p rs s t b.1 ∧ 1 ≤ b.2 ∧ b.2 ≤ 6
  sm : (B.map fun b => b.2).sum = v
  ft : ∀ r ∈ rs, carr B r ≤ r.2.2
/-- it crosses -/
theorem path_cross {f : List Int} : ∀ (P : List Int) (hne : P ≠ []), decide (P.head hne ∈ f) ≠ decide (P.getLast hne ∈ f) → ∃ e ∈ sps P, crP f e = true
  | [x], _, h => (h rfl).elim
  | x :: y :: r, _, h => by
    by_cases c : decide (x ∈ f) = decide (y ∈ f)
    · obtain ⟨e, m, q⟩ := path_cross (y :: r) (by simp) (by
        intro z
        apply h
        show decide (x ∈ f) = decide ((x :: y :: r).getLast _ ∈ f)
        rw [List.getLast_cons_cons, c]
        exact z)
      exact ⟨e, List.mem_cons_of_mem _ m, q⟩
    · exact ⟨(x, y), List.mem_cons_self .., by simpa [crP, bne_iff_ne] using c⟩
theorem PA.cross {p : Int} {rs : List (Int × Int × Int)} {s t : Int} {P : List Int} (a : PA p rs s t P) {f : List Int} (hf : crP f (s, t) = true) : ∃ r ∈ rs, crs f r = true ∧ goB P r = true := by
  have ne : P ≠ [] := fun e => by have := a.hd; rw [e] at this; cases this
  have hh : P.head ne = s := by
    have := a.hd
    rw [List.head?_eq_some_head ne] at this
    exact Option.some.inj this
  have hl : P.getLast ne = t := by
    have := a.ls
    rw [List.getLast?_eq_some_getLast ne] at this
    exact Option.some.inj this
  obtain ⟨e, m, q⟩ := path_cross (f := f) P ne (by
    rw [hh, hl]
    simpa [crP, bne_iff_ne] using hf)
  obtain ⟨w, hw⟩ := Option.isSome_iff_exists.mp (a.jn e m)
  obtain ⟨r, mr, -, hm⟩ := wd_mem hw
  refine ⟨r, mr, ?_, List.any_eq_true.mpr ⟨e, m, hm⟩⟩
  rw [mt_iff] at hm
  unfold crs
  unfold crP at q
  rcases hm with ⟨h1, h2⟩ | ⟨h1, h2⟩
  · rw [h1, h2]; exact q
  · rw [h1, h2]
    revert q
    cases decide (e.1 ∈ f) <;> cases decide (e.2 ∈ f) <;> simp
theorem sum_leP {α : Type} {f g : α → Int} : ∀ {l : List α}, (∀ x ∈ l, f x ≤ g x) → (l.map f).sum ≤ (l.map g).sum ∧ ((l.map g).sum ≤ (l.map f).sum → ∀ x ∈ l, f x = g x)
  | [], _ => ⟨Int.le_refl _, fun _ x m => (by cases m)⟩
  | y :: l, h => by
    have a := h y (List.mem_cons_self ..)
    obtain ⟨b, c⟩ := sum_leP (l := l) fun x m => h x (List.mem_cons_of_mem _ m)
    rw [List.map_cons, List.map_cons, List.sum_cons, List.sum_cons]
    refine ⟨by omega, fun q x m => ?_⟩
    rcases List.mem_cons.mp m with rfl | m
    · omega
    · exact c (by omega) x m
theorem carr_cross (B : List (List Int × Int)) (X : List (Int × Int × Int)) : (X.map (carr B)).sum = (B.map fun b => b.2 * ((X.filter (goB b.1)).length : Int)).sum := by
  induction B with
  | nil =>
    show (X.map fun _ => (0 : Int)).sum = 0
    induction X with
    | nil => rfl
    | cons x X ih => rw [List.map_cons, List.sum_cons, ih]; rfl
  | cons b B ih =>
    rw [List.map_cons, List.sum_cons, ← ih]
    clear ih
    induction X with
    | nil => simp
    | cons x X ih =>
      rw [List.map_cons, List.sum_cons, ih, List.map_cons, List.sum_cons]
      show (if goB b.1 x = true then b.2 else 0) + carr B x + _ = _
      cases q : goB b.1 x
      · rw [List.filter_cons_of_neg (by simp [q])]; simp only [Bool.false_eq_true, if_false]; omega
      · rw [List.filter_cons_of_pos q, List.length_cons, Int.natCast_add, Int.mul_add]; simp only [if_true]; omega
/-- over a least fence -/
theorem BU.tight {p : Int} {rs : List (Int × Int × Int)} {s t v : Int} {B : List (List Int × Int)} (b : BU p rs s t v B) {f : List Int} (hf : crP f (s, t) = true) (hw : wid rs f = v) : (∀ r ∈ rs.filter (crs f), carr B r = r.2.2) ∧ ∀ x ∈ B, ((rs.filter (crs f)).filter (goB x.1)).length = 1 := by
  have one : ∀ x ∈ B, x.2 ≤ x.2 * (((rs.filter (crs f)).filter (goB x.1)).length : Int) := fun x m => by
    obtain ⟨a, m1, -⟩ := b.pa x m
    obtain ⟨r, mr, h1, h2⟩ := a.cross hf
    have : r ∈ (rs.filter (crs f)).filter (goB x.1) := List.mem_filter.mpr ⟨List.mem_filter.mpr ⟨mr, h1⟩, h2⟩
    have := List.length_pos_of_mem this
    have : x.2 * 1 ≤ x.2 * (((rs.filter (crs f)).filter (goB x.1)).length : Int) := Int.mul_le_mul_of_nonneg_left (by omega) (by omega)
    omega
  have two : ∀ r ∈ rs.filter (crs f), carr B r ≤ r.2.2 := fun r m => b.ft r (List.mem_filter.mp m).1
  obtain ⟨a1, a2⟩ := sum_leP one
  obtain ⟨c1, c2⟩ := sum_leP two
  rw [b.sm] at a1 a2
  rw [← carr_cross] at a1 a2
  have w : ((rs.filter (crs f)).map fun r => r.2.2).sum = v := hw
  rw [w] at c1 c2
  refine ⟨c2 a1, fun x m => ?_⟩
  have q := a2 c1 x m
  have m1 := (b.pa x m).2.1
  have : x.2 * (((rs.filter (crs f)).filter (goB x.1)).length : Int) = x.2 * 1 := by omega
  have := Int.eq_of_mul_eq_mul_left (by omega) this
  omega
/-- while it is taken apart -/
structure UI (p : Int) (rs : List (Int × Int × Int)) (s t v left : Int) (χ φ : Int → Int → Int) (B : List (List Int × Int)) : Prop where
  fl : Flow p rs s t φ left
  cr : CR rs χ φ
  pa : ∀ b ∈ B, PA p rs s t b.1 ∧ 1 ≤ b.2 ∧ b.2 ≤ 6
  sm : (B.map fun b => b.2).sum + left = v
  ft : ∀ r ∈ rs, carr B r + (φ r.1 r.2.1).natAbs ≤ r.2.2
theorem ui_0 {p : Int} {rs : List (Int × Int × Int)} (o : ROk p rs) {s t v : Int} {φ : Int → Int → Int} (F : Flow p rs s t φ v) : UI p rs s t v v (fun x y => (wd rs x y).getD 0 - φ x y) φ [] := by
  refine ⟨F, fun x y w h => ?_, by simp, by simp, fun r m => ?_⟩
  · rw [h]
    show max (w - (w - φ x y)) 0 = _
    omega
  · have a := F.capR o r m
    have b := F.as r.1 r.2.1
    show 0 + _ ≤ _
    omega
theorem UI.step {p : Int} {rs : List (Int × Int × Int)} (o : ROk p rs) {s t v left : Int} {χ φ : Int → Int → Int} {B : List (List Int × Int)} (u : UI p rs s t v left χ φ B) (st : s ≠ t) {P : List Int} (po : PO p rs χ s P t) {m : Int} (m1 : 1 ≤ m) (hm : ∀ e ∈ sps P, m ≤ rmv rs χ e.1 e.2) (m6 : m ≤ 6) : UI p rs s t v (left - m) ((sps P).foldl (stq m) χ) ((sps P).foldl (stp (-m)) φ) (B ++ [(P, m)]) := by
  have ne : P ≠ [] := fun e => by have := po.hd; rw [e] at this; cases this
  have hh : P.head ne = s := by
    have := po.hd
    rw [List.head?_eq_some_head ne] at this
    exact Option.some.inj this
  have hl : P.getLast ne = t := by
    have := po.ls
    rw [List.getLast?_eq_some_getLast ne] at this
    exact Option.some.inj this
  have hw : ∀ e ∈ sps P, ∃ w, wd rs e.1 e.2 = some w ∧ m ≤ w - χ e.1 e.2 := fun e me => by
    obtain ⟨w, h1, -⟩ := rmv_pos (po.rm e me)
    have h2 := hm e me
    unfold rmv at h2
    rw [h1] at h2
    exact ⟨w, h1, h2⟩
  have hφ : ∀ e ∈ sps P, m ≤ φ e.1 e.2 := fun e me => by
    obtain ⟨w, h1, h2⟩ := hw e me
    have := u.cr e.1 e.2 w h1
    omega
  refine ⟨u.fl.pull o st po.nd ne hh hl (by omega) fun e me => ?_, u.cr.pull u.fl po.nd m1 fun e me w h => ?_, fun b hb => ?_, ?_, fun r hr => ?_⟩
  · obtain ⟨w, h1, -⟩ := hw e me
    exact ⟨by rw [h1]; rfl, hφ e me⟩
  · obtain ⟨w', h1, h2⟩ := hw e me
    rw [h] at h1
    cases h1
    exact h2
  · rcases List.mem_append.mp hb with hb | hb
    · exact u.pa b hb
    · rw [List.mem_singleton] at hb
      subst hb
      refine ⟨⟨po.hd, po.ls, po.nd, po.pt, fun e me => ?_⟩, m1, m6⟩
      obtain ⟨w, h1, -⟩ := hw e me
      rw [h1]; rfl
  · have := u.sm
    rw [List.map_append, List.sum_append]
    show _ + (m + 0) + _ = _
    omega
  · rw [carr_app, fold_stp (-m) po.nd]
    have a := u.ft r hr
    have as := u.fl.as r.1 r.2.1
    by_cases q1 : (r.1, r.2.1) ∈ sps P
    · have l1 := hφ _ q1
      simp only at l1
      have q2 : (r.2.1, r.1) ∉ sps P := fun q2 => by
        have l2 := hφ _ q2
        simp only at l2
        omega
      rw [if_pos q1, if_neg q2, if_pos ((goB_iff (p := p) (rs := rs)).mpr (.inl q1))]
      omega
    · by_cases q2 : (r.2.1, r.1) ∈ sps P
      · have l2 := hφ _ q2
        simp only at l2
        rw [if_neg q1, if_pos q2, if_pos ((goB_iff (p := p) (rs := rs)).mpr (.inr q2))]
        omega
      · rw [if_neg q1, if_neg q2, if_neg fun h => ((goB_iff (p := p) (rs := rs)).mp h).elim q1 q2]
        omega
theorem UI.done {p : Int} {rs : List (Int × Int × Int)} {s t v : Int} {χ φ : Int → Int → Int} {B : List (List Int × Int)} (u : UI p rs s t v 0 χ φ B) : BU p rs s t v B := by
  refine ⟨u.pa, by have := u.sm; omega, fun r m => ?_⟩
  have := u.ft r m
  omega
/-! ### operators on two points -/
theorem bi_min_pr (h : AH) (x y : Int) : biEv .minL h [prD (x, y)] = some (.int (min x y), false) := by
  have a := bi_minI h (xs := [x, y]) (by simp)
  have e : minI [x, y] = min x y := by
    show (if y < x then y else x) = _
    split <;> omega
  rw [e] at a
  exact a
theorem bi_max_pr (h : AH) (x y : Int) : biEv .maxL h [prD (x, y)] = some (.int (max x y), false) := by
  have a := bi_maxI h (xs := [x, y]) (by simp)
  have e : maxI [x, y] = max x y := by
    show (if x < y then y else x) = _
    split <;> omega
  rw [e] at a
  exact a
theorem bi_sort_pr (h : AH) (x y : Int) : biEv .sorted h [prD (x, y)] = some (.lst [.int (min x y), .int (max x y)], true) := by
  have a := bi_sortI h (xs := [x, y]) (by show 2 ≤ 1000000; omega)
  have e : srtB ltI [x, y] = [min x y, max x y] := by
    show insB ltI x [y] = _
    unfold insB ltI
    by_cases c : y < x
    · rw [if_pos (by simpa using c)]
      show [y, x] = _
      rw [Int.min_eq_right (by omega), Int.max_eq_left (by omega)]
    · rw [if_neg (by simpa using c), Int.min_eq_left (by omega), Int.max_eq_right (by omega)]
  rw [e] at a
  exact a
theorem cmp_l2 (h : AH) (a b c d : Int) : cmpEv .eq h (.lst [.int a, .int b]) (.lst [.int c, .int d]) = some (decide (a = c ∧ b = d)) := by
  by_cases z : a = c <;> by_cases y : b = d <;> simp [cmpEv, res, D.plain, plK, deq, deqL, z, y]
theorem cmp_net2 (h : AH) (a b c d : Int) : cmpEv .ne h (.tup [.int a, .int b]) (.tup [.int c, .int d]) = some (!decide (a = c ∧ b = d)) := by
  by_cases z : a = c <;> by_cases y : b = d <;> simp [cmpEv, res, D.plain, plK, deq, deqL, z, y]
/-- the pairs along a path -/
def alN (P : List Int) : List (Int × Int) := (sps P).map fun e => (min e.1 e.2, max e.1 e.2)
theorem alN_mem {P : List Int} {r : Int × Int × Int} (hr : r.1 < r.2.1) : decide ((r.1, r.2.1) ∈ alN P) = goB P r := by
  rw [Bool.eq_iff_iff, decide_eq_true_eq, goB_iff (p := 0) (rs := [])]
  unfold alN
  rw [List.mem_map]
  constructor
  · rintro ⟨e, m, h⟩
    obtain ⟨x, y⟩ := e
    simp only [Prod.mk.injEq] at h
    rcases Int.lt_or_le x y with c | c
    · exact .inl (by rw [show r.1 = x by omega, show r.2.1 = y by omega]; exact m)
    · exact .inr (by rw [show r.1 = y by omega, show r.2.1 = x by omega]; exact m)
  · rintro (m | m)
    · exact ⟨_, m, by simp only [Prod.mk.injEq]; omega⟩
    · exact ⟨_, m, by simp only [Prod.mk.injEq]; omega⟩
theorem PA.alN {p : Int} {rs : List (Int × Int × Int)} (o : ROk p rs) {s t : Int} {P : List Int} (a : PA p rs s t P) : ∀ q ∈ Rw.alN P, q ∈ rs.map fun r => (r.1, r.2.1) := by
  intro q m
  obtain ⟨e, me, rfl⟩ := List.mem_map.mp m
  obtain ⟨w, hw⟩ := Option.isSome_iff_exists.mp (a.jn e me)
  obtain ⟨r, mr, -, hm⟩ := wd_mem hw
  have z := o.pt r mr
  rw [mt_iff] at hm
  refine List.mem_map.mpr ⟨r, mr, ?_⟩
  rcases hm with ⟨h1, h2⟩ | ⟨h1, h2⟩
  · rw [← h1, ← h2]; exact Prod.ext (by simp only; omega) (by simp only; omega)
  · rw [← h1, ← h2]; exact Prod.ext (by simp only; omega) (by simp only; omega)
theorem PA.len {p : Int} {rs : List (Int × Int × Int)} {s t : Int} {P : List Int} (a : PA p rs s t P) (st : s ≠ t) : 2 ≤ P.length ∧ P.length ≤ p.toNat := by
  refine ⟨?_, nodup_le a.nd a.pt⟩
  cases P with
  | nil => have := a.hd; cases this
  | cons x r =>
    cases r with
    | nil => have h1 := a.hd; have h2 := a.ls; simp at h1 h2; omega
    | cons y r => simp only [List.length_cons]; omega
theorem nodup_take {P : List Int} (nd : P.Nodup) {i : Int} (h0 : 0 ≤ i) (h1 : i < P.length) : at' P i ∉ P.take i.toNat := by
  intro m
  have hi : i.toNat < P.length := by omega
  have e : at' P i = P[i.toNat] := by simp [at', List.getD, hi]
  rw [e] at m
  obtain ⟨j, hj, ej⟩ := List.getElem_of_mem m
  rw [List.length_take] at hj
  rw [List.getElem_take] at ej
  have := (List.nodup_iff_pairwise_ne.mp nd)
  rw [List.pairwise_iff_getElem] at this
  exact this j i.toNat (by omega) hi (by omega) ej
theorem sl_take {h : AH} {P : List Int} {i : Int} (h0 : 0 ≤ i) (h1 : i ≤ P.length) : slEv h (tint P) none (some i) = some (tint (P.take i.toNat), false) := by
  show some (D.tup (cut (P.map D.int) none (some i)), false) = _
  rw [cut_lo _ h0 (by rw [List.length_map]; omega), ← List.map_take]
theorem ix_neg1 {h : AH} {P : List Int} {t : Int} (e : P.getLast? = some t) : ixEv h (tint P) (.int (-1)) = some (.int t, false) := by
  have ne : P ≠ [] := fun z => by rw [z] at e; cases e
  have l : 0 < P.length := List.length_pos_iff.mpr ne
  have i : ixOf (P.map D.int).length (-1) = some (P.length - 1) := by
    unfold ixOf
    rw [List.length_map, if_neg (by omega)]
    rw [if_pos (by omega)]
    congr 1
    omega
  simp only [ixEv, ddOf, items, Option.bind_some, i]
  rw [List.getLast?_eq_getElem?] at e
  rw [List.getElem?_map, e]
  rfl
theorem BU.lenB {p : Int} {rs : List (Int × Int × Int)} {s t v : Int} {B : List (List Int × Int)} (b : BU p rs s t v B) : (B.length : Int) ≤ v := by
  rw [← b.sm]
  have key : ∀ C : List (List Int × Int), (∀ x ∈ C, 1 ≤ x.2) → (C.length : Int) ≤ (C.map fun x => x.2).sum := by
    intro C
    induction C with
    | nil => intro _; simp
    | cons x C ih =>
      intro h
      have a := h x (List.mem_cons_self ..)
      have c := ih fun y m => h y (List.mem_cons_of_mem _ m)
      rw [List.length_cons, List.map_cons, List.sum_cons]
      omega
  exact key B fun x m => (b.pa x m).2.1
theorem lst_90 {p : Int} {rs : List (Int × Int × Int)} (o : ROk p rs) (l : rs.length ≤ 15) {qs : List (Int × Int)} (ne : cutN p qs ≠ []) : lstN p rs qs ≤ 90 := by
  obtain ⟨f, m, e⟩ := lfs_ne p rs qs ne
  have := wid_le6 o f
  omega
end Rw
end

section
set_option Elab.async false
set_option linter.all false
set_option maxRecDepth 100000
set_option maxHeartbeats 4000000
namespace Rw
namespace k07
theorem stream_ok (k : Nat) (ns : List Int) (h : AH) (hn : ns.length ≤ 63) : callN pg (k + 1) i_law_stream [.scr ns] h = .ok (.lst [.lst (ns.map .int), .int 0, .int 0], true) h := by
  rw [call_at (fn := f_law_stream) rfl rfl]
  have e : (D.lst [.lst (ns.map .int), .int 0, .int 0]).top = 0 := by
    simp [D.top, topL, topL_ints]
  simp [f_law_stream, DN, biEv, stems, litems, LN, leave_imm e]
theorem reg_stream (ns : List Int) : regEv ⟨[], 0⟩ (.lst [.lst (ns.map .int), .int 0, .int 0], true) = .ok (.ref 0, false) (hU ⟨ns, 0, 0, by decide, by decide⟩ [] 0) := by
  simp [regEv, AH.new, hU, St.ob, topL, D.top, topL_ints]
theorem next_at (k : Nat) (s : St) (os : List Ob) (fl : Nat) (many : Int) (m0 : 0 < many) (m1 : many ≤ 1000) :
    callN pg (k + 1) i_law_next [.ref 0, .int many] (hU s os fl) = .ok (.int (s.vl many), false) (hU (s.nx many) os fl) := by
  rw [call_at (fn := f_law_next) rfl rfl]
  have hl : many.natAbs.log2 < 9000 := by
    have : many.natAbs.log2 ≤ many.natAbs := Nat.log2_le_self _
    omega
  have s1 : small64 48271 = true := by decide
  have s2 : small64 69621 = true := by decide
  have s3 : small64 16807 = true := by decide
  have s4 : small64 65537 = true := by decide
  have s5 : small64 10 = true := by decide
  have i0 : ixOf 3 0 = some 0 := by decide
  have i1 : ixOf 3 1 = some 1 := by decide
  have i2 : ixOf 3 2 = some 2 := by decide
  have hab : (many.natAbs : Int) = many := by omega
  obtain ⟨ns, c, p, hc, hp⟩ := s
  have lv : ∀ (x : Int) (f : Bool) (o : Ob), leave (os.length + 1) (.int x) f ⟨o :: os, fl⟩ = .ok (.int x, f) ⟨o :: os, fl⟩ := fun x f o => leave_imm' (by simp) rfl
  by_cases h0 : c = 0
  · subst h0
    by_cases h1 : p < ns.length
    · have hx : ixOf ns.length p = some p.toNat := by
        unfold ixOf
        rw [if_pos hp, if_pos h1]
      have hlt : p.toNat < ns.length := by omega
      obtain ⟨x, hxx, hx0⟩ : ∃ x : Int, (if ns[p.toNat] < 0 then -ns[p.toNat] else ns[p.toNat]) = x ∧ 0 ≤ x := ⟨_, rfl, by split <;> omega⟩
      by_cases h2 : x < 1000000000000000000
      · simp [f_law_next, DN, St.ob, St.vl, St.nx, St.C, St.P, St.cell, hab, ixEv, ddOf, items, i0, i1, i2, cmpEv, res, D.plain, plK, deq, biEv, binEv, m0, hl, asgT, setEv, R.nox, AH.put, D.top, h1, hx, hlt, hxx, h2, s1, s2, s3, s4, s5, mixc, lv]
      · simp [f_law_next, DN, St.ob, St.vl, St.nx, St.C, St.P, St.cell, hab, ixEv, ddOf, items, i0, i1, i2, cmpEv, res, D.plain, plK, deq, biEv, binEv, m0, hl, asgT, setEv, R.nox, AH.put, D.top, h1, hx, hlt, hxx, h2, s1, s2, s3, s4, s5, lv]
    · by_cases h2 : 7 + p < 1000000000000000000
      · simp [f_law_next, DN, St.ob, St.vl, St.nx, St.C, St.P, St.cell, hab, ixEv, ddOf, items, i0, i1, i2, cmpEv, res, D.plain, plK, deq, biEv, binEv, m0, hl, asgT, setEv, R.nox, AH.put, D.top, h1, h2, s1, s2, s3, s4, s5, mixc, lv]
      · simp [f_law_next, DN, St.ob, St.vl, St.nx, St.C, St.P, St.cell, hab, ixEv, ddOf, items, i0, i1, i2, cmpEv, res, D.plain, plK, deq, biEv, binEv, m0, hl, asgT, setEv, R.nox, AH.put, D.top, h1, h2, s1, s2, s3, s4, s5, lv]
  · have hcb : (c == 0) = false := by simpa using h0
    simp [f_law_next, DN, St.ob, St.vl, St.nx, St.C, St.P, St.cell, hab, ixEv, ddOf, items, i1, i2, cmpEv, res, D.plain, plK, deq, hcb, h0, biEv, binEv, m0, hl, asgT, setEv, R.nox, AH.put, D.top, lv]
theorem next_ex (k : Nat) (s : St) (os : List Ob) (fl : Nat) (many : Int) (m0 : 0 < many) (m1 : many ≤ 1000) :
    ∃ v s', 0 ≤ v ∧ v < many ∧ callN pg (k + 1) i_law_next [.ref 0, .int many] (hU s os fl) = .ok (.int v, false) (hU s' os fl) :=
  ⟨_, _, s.vl_nn m0, s.vl_lt m0, next_at k s os fl many m0 m1⟩
theorem pick_ok (k : Nat) (s : St) (os : List Ob) (fl : Nat) (xs : List D) (x0 : 0 < xs.length) (x1 : xs.length ≤ 1000) (ht : ∀ d ∈ xs, d.top = 0) : callN pg (k + 2) i_law_pick [.ref 0, .lst xs] (hU s os fl) = .ok (at' xs (s.vl xs.length), false) (hU (s.nx xs.length) os fl) := by
  rw [call_at (fn := f_law_pick) rfl rfl]
  have hx := ix_lm (h := hU (s.nx xs.length) os fl) (f := id) (xs := xs) (s.vl_nn (m := xs.length) (by omega)) (s.vl_lt (by omega))
  rw [List.map_id] at hx
  have e := next_at k s os fl xs.length (by omega) (by omega)
  have lv := leave_imm' (n := os.length + 1) (d := at' xs (s.vl xs.length)) (f := false) (h := hU (s.nx xs.length) os fl) rfl (ht _ (at_mem (s.vl_nn (m := xs.length) (by omega)) (s.vl_lt (by omega))))
  simp [f_law_pick, DN, e, hx, lv]
theorem pick_ints (k : Nat) (s : St) (os : List Ob) (fl : Nat) (xs : List Int) (x0 : 0 < xs.length) (x1 : xs.length ≤ 1000) : callN pg (k + 2) i_law_pick [.ref 0, .lst (xs.map .int)] (hU s os fl) = .ok (.int (at' xs (s.vl xs.length)), false) (hU (s.nx xs.length) os fl) := by
  have := pick_ok k s os fl (xs.map .int) (by simpa using x0) (by simpa using x1) (fun d m => by obtain ⟨x, -, rfl⟩ := List.mem_map.mp m; rfl)
  rw [this, List.length_map]
  have h0 := s.vl_nn (m := xs.length) (by omega)
  have h1 := s.vl_lt (m := xs.length) (by omega)
  have h2 : (s.vl xs.length).toNat < xs.length := by omega
  simp [at', List.getD, h2]
theorem pick_ex (k : Nat) (s : St) (os : List Ob) (fl : Nat) (xs : List Int) (x0 : 0 < xs.length) (x1 : xs.length ≤ 1000) :
    ∃ x s', x ∈ xs ∧ callN pg (k + 2) i_law_pick [.ref 0, .lst (xs.map .int)] (hU s os fl) = .ok (.int x, false) (hU s' os fl) :=
  ⟨_, _, at_mem (s.vl_nn (m := xs.length) (by omega)) (s.vl_lt (by omega)), pick_ints k s os fl xs x0 x1⟩
/-- the loop's environment -/
def lkE (p share m g : Int) (o6 o7 : Option D) : Env := [some (.ref 0), some (.int p), some (.int share), some (.int m), some (.int g), some (.ref 1), o6, o7]
def lkI (p share m g : Int) (o6 : Option D) (a b : Int) (env : Env) (h : AH) : Prop := ∃ rs s o7, env = lkE p share m g o6 o7 ∧ h = hU s [.lst (rs.map rd)] 0 ∧ InvL p a b m g rs
end k07
end Rw
end

section
set_option Elab.async false
set_option linter.all false
set_option maxRecDepth 100000
set_option maxHeartbeats 4000000
namespace Rw
namespace k07
def bdN : List D := [.non, .lst [.int 4, .tup [.tup [.int 0, .int 1, .int 2], .tup [.int 0, .int 3, .int 1], .tup [.int 1, .int 2, .int 6]]], .tup [.int 4], .tup [.int 4, .lst [.tup [.int 0, .int 1, .int 2], .tup [.int 0, .int 3, .int 1], .tup [.int 1, .int 2, .int 6]]], .tup [.int 4, .tup [.tup [.int 1, .int 2, .int 6], .tup [.int 0, .int 3, .int 1], .tup [.int 0, .int 1, .int 2]]], .tup [.int 4, .tup [.tup [.int 0, .int 1, .int 2], .tup [.int 0, .int 3, .int 1], .tup [.int 1, .int 2, .int 6], .tup [.int 2, .int 4, .int 1]]], .tup [.int 4, .tup [.tup [.int 1, .int 0, .int 1]]], .tup [.int 4, .tup [.tup [.int 0, .int 1, .int 0]]], .tup [.int 4, .tup [.tup [.int 0, .int 1, .int 7]]], .tup [.int 4, .tup [.tup [.int 0, .int 1, .bl true]]], .tup [.int 4, .tup [.tup [.int 0, .int 1, .int 1], .tup [.int 0, .int 1, .int 2]]], .tup [.int 1, .tup []], .tup [.int 8, .tup []], .int 0, .tup [.int 4, .non]]
def bdW : List D := [.non, .lst [.tup [.int 0, .int 2, .int 1], .tup [.int 1, .int 3, .int 6]], .tup [.tup [.int 1, .int 3, .int 6], .tup [.int 0, .int 2, .int 1]], .tup [.tup [.int 0, .int 2, .int 1], .tup [.int 1, .int 3, .int 6], .tup [.int 2, .int 4, .int 1]], .tup [.tup [.int 2, .int 0, .int 1]], .tup [.tup [.int 0, .int 2, .int 0]], .tup [.tup [.int 0, .int 2, .int 7]], .tup [.tup [.int 0, .int 2]], .tup [.tup [.int 0, .int 2, .int 1], .tup [.int 0, .int 2, .int 3]], .tup [.tup [.int 0, .int 0, .int 1]], .tup [.tup [.int (-1), .int 2, .int 1]], .int 0, .str [], .tup [.non]]
def bdF : List D := [.non, .lst [.int 1], .tup [], .tup [.int 0], .tup [.int 0, .int 1], .tup [.int 2, .int 1], .tup [.int 1, .int 1], .tup [.int 4], .tup [.int (-1)], .tup [.bl true], .tup [.str [49]], .tup [.int 1, .int 2, .int 3, .int 4], .int 1]
def bdS : List D := [.non, .lst [.int 0], .tup [], .tup [.int 0, .int 1, .int 2, .int 3], .tup [.int 2, .int 1], .tup [.int 1, .int 1], .tup [.int 4], .tup [.int (-1)], .tup [.bl true], .tup [.str [49]], .int 0]
def bdO : List D := [.non, .lst [.int 0, .int 1, .int 2, .int 3], .tup [.int 0, .int 1, .int 2], .tup [.int 0, .int 1, .int 2, .int 2], .tup [.int 0, .int 1, .int 2, .int 4], .tup [.int 0, .bl true, .int 2, .int 3], .tup [.int 0, .int 1, .int 2, .int 3, .int 4], .int 0, .tup [.str [48], .int 1, .int 2, .int 3]]
def bd1 : List D := [.int (-1), .int 4, .non, .bl true, .str [48], .tup [.int 0]]
def bd2 : List D := [.int 0, .int 1, .int 4, .int (-1), .non, .bl true, .str [50]]
theorem g_fences (k : Nat) (s : St) : callN pg (k + 12) i_law_told [(.str [102, 101, 110, 99, 101, 115]), (.lst [.tup [.int 4, .tup [.tup [.int 0, .int 1, .int 2], .tup [.int 0, .int 3, .int 1], .tup [.int 1, .int 2, .int 6]]]])] (hU s [.dead] 0) = .ok (.str [], false) (hU s [.dead] 0) := by kernel_rfl
theorem w_fences_0 (k : Nat) (s : St) : ∀ o ∈ bdN, ∀ (_ : Unit), callN pg (k + 12) i_law_told [(.str [102, 101, 110, 99, 101, 115]), .lst [o]] (hU s [.dead] 0) = .ok (.str [110, 101, 116], false) (hU s [.dead] 0) := by
  intro o ho _
  simp only [bdN, List.mem_cons, List.not_mem_nil, or_false] at ho
  rcases ho with rfl | rfl | rfl | rfl | rfl | rfl | rfl | rfl | rfl | rfl | rfl | rfl | rfl | rfl | rfl
  · kernel_rfl
  · kernel_rfl
  · kernel_rfl
  · kernel_rfl
  · kernel_rfl
  · kernel_rfl
  · kernel_rfl
  · kernel_rfl
  · kernel_rfl
  · kernel_rfl
  · kernel_rfl
  · kernel_rfl
  · kernel_rfl
  · kernel_rfl
  · kernel_rfl
theorem g_widths (k : Nat) (s : St) : callN pg (k + 12) i_law_told [(.str [119, 105, 100, 116, 104, 115]), (.lst [.tup [.int 4, .tup [.tup [.int 0, .int 1, .int 2], .tup [.int 0, .int 3, .int 1], .tup [.int 1, .int 2, .int 6]]]])] (hU s [.dead] 0) = .ok (.str [], false) (hU s [.dead] 0) := by kernel_rfl
theorem w_widths_0 (k : Nat) (s : St) : ∀ o ∈ bdN, ∀ (_ : Unit), callN pg (k + 12) i_law_told [(.str [119, 105, 100, 116, 104, 115]), .lst [o]] (hU s [.dead] 0) = .ok (.str [110, 101, 116], false) (hU s [.dead] 0) := by
  intro o ho _
  simp only [bdN, List.mem_cons, List.not_mem_nil, or_false] at ho
  rcases ho with rfl | rfl | rfl | rfl | rfl | rfl | rfl | rfl | rfl | rfl | rfl | rfl | rfl | rfl | rfl
  · kernel_rfl
  · kernel_rfl
  · kernel_rfl
  · kernel_rfl
  · kernel_rfl
  · kernel_rfl
  · kernel_rfl
  · kernel_rfl
  · kernel_rfl
  · kernel_rfl
  · kernel_rfl
  · kernel_rfl
  · kernel_rfl
  · kernel_rfl
  · kernel_rfl
theorem g_parts (k : Nat) (s : St) : callN pg (k + 12) i_law_told [(.str [112, 97, 114, 116, 115]), (.lst [.tup [.int 4, .tup [.tup [.int 0, .int 1, .int 2], .tup [.int 0, .int 3, .int 1], .tup [.int 1, .int 2, .int 6]]]])] (hU s [.dead] 0) = .ok (.str [], false) (hU s [.dead] 0) := by kernel_rfl
theorem w_parts_0 (k : Nat) (s : St) : ∀ o ∈ bdN, ∀ (_ : Unit), callN pg (k + 12) i_law_told [(.str [112, 97, 114, 116, 115]), .lst [o]] (hU s [.dead] 0) = .ok (.str [110, 101, 116], false) (hU s [.dead] 0) := by
  intro o ho _
  simp only [bdN, List.mem_cons, List.not_mem_nil, or_false] at ho
  rcases ho with rfl | rfl | rfl | rfl | rfl | rfl | rfl | rfl | rfl | rfl | rfl | rfl | rfl | rfl | rfl
  · kernel_rfl
  · kernel_rfl
  · kernel_rfl
  · kernel_rfl
  · kernel_rfl
  · kernel_rfl
  · kernel_rfl
  · kernel_rfl
  · kernel_rfl
  · kernel_rfl
  · kernel_rfl
  · kernel_rfl
  · kernel_rfl
  · kernel_rfl
  · kernel_rfl
theorem g_are (k : Nat) (s : St) : callN pg (k + 12) i_law_told [(.str [97, 114, 101]), (.lst [.tup [.int 4, .tup [.tup [.int 0, .int 1, .int 2], .tup [.int 0, .int 3, .int 1], .tup [.int 1, .int 2, .int 6]]]])] (hU s [.dead] 0) = .ok (.str [], false) (hU s [.dead] 0) := by kernel_rfl
theorem w_are_0 (k : Nat) (s : St) : ∀ o ∈ bdN, ∀ (_ : Unit), callN pg (k + 12) i_law_told [(.str [97, 114, 101]), .lst [o]] (hU s [.dead] 0) = .ok (.str [110, 101, 116], false) (hU s [.dead] 0) := by
  intro o ho _
  simp only [bdN, List.mem_cons, List.not_mem_nil, or_false] at ho
  rcases ho with rfl | rfl | rfl | rfl | rfl | rfl | rfl | rfl | rfl | rfl | rfl | rfl | rfl | rfl | rfl
  · kernel_rfl
  · kernel_rfl
  · kernel_rfl
  · kernel_rfl
  · kernel_rfl
  · kernel_rfl
  · kernel_rfl
  · kernel_rfl
  · kernel_rfl
  · kernel_rfl
  · kernel_rfl
  · kernel_rfl
  · kernel_rfl
  · kernel_rfl
  · kernel_rfl
theorem g_is (k : Nat) (s : St) : callN pg (k + 12) i_law_told [(.str [105, 115]), (.lst [.tup [.int 4, .tup [.tup [.int 0, .int 1, .int 2], .tup [.int 0, .int 3, .int 1], .tup [.int 1, .int 2, .int 6]]]])] (hU s [.dead] 0) = .ok (.str [], false) (hU s [.dead] 0) := by kernel_rfl
theorem w_is_0 (k : Nat) (s : St) : ∀ o ∈ bdN, ∀ (_ : Unit), callN pg (k + 12) i_law_told [(.str [105, 115]), .lst [o]] (hU s [.dead] 0) = .ok (.str [110, 101, 116], false) (hU s [.dead] 0) := by
  intro o ho _
  simp only [bdN, List.mem_cons, List.not_mem_nil, or_false] at ho
  rcases ho with rfl | rfl | rfl | rfl | rfl | rfl | rfl | rfl | rfl | rfl | rfl | rfl | rfl | rfl | rfl
  · kernel_rfl
  · kernel_rfl
  · kernel_rfl
  · kernel_rfl
  · kernel_rfl
  · kernel_rfl
  · kernel_rfl
  · kernel_rfl
  · kernel_rfl
  · kernel_rfl
  · kernel_rfl
  · kernel_rfl
  · kernel_rfl
  · kernel_rfl
  · kernel_rfl
theorem g_width (k : Nat) (s : St) : callN pg (k + 12) i_law_told [(.str [119, 105, 100, 116, 104]), (.lst [.tup [.int 4, .tup [.tup [.int 0, .int 1, .int 2], .tup [.int 0, .int 3, .int 1], .tup [.int 1, .int 2, .int 6]]], .tup [.int 1, .int 3]])] (hU s [.dead] 0) = .ok (.str [], false) (hU s [.dead] 0) := by kernel_rfl
theorem w_width_0 (k : Nat) (s : St) : ∀ o ∈ bdN, ∀ (r0 : D), callN pg (k + 12) i_law_told [(.str [119, 105, 100, 116, 104]), .lst [o, r0]] (hU s [.dead] 0) = .ok (.str [110, 101, 116], false) (hU s [.dead] 0) := by
  intro o ho r0
  simp only [bdN, List.mem_cons, List.not_mem_nil, or_false] at ho
  rcases ho with rfl | rfl | rfl | rfl | rfl | rfl | rfl | rfl | rfl | rfl | rfl | rfl | rfl | rfl | rfl
  · kernel_rfl
  · kernel_rfl
  · kernel_rfl
  · kernel_rfl
  · kernel_rfl
  · kernel_rfl
  · kernel_rfl
  · kernel_rfl
  · kernel_rfl
  · kernel_rfl
  · kernel_rfl
  · kernel_rfl
  · kernel_rfl
  · kernel_rfl
  · kernel_rfl
theorem w_width_1 (k : Nat) (s : St) : ∀ o ∈ bdF, ∀ (_ : Unit), callN pg (k + 12) i_law_told [(.str [119, 105, 100, 116, 104]), .lst [.tup [.int 4, .tup [.tup [.int 0, .int 1, .int 2], .tup [.int 0, .int 3, .int 1], .tup [.int 1, .int 2, .int 6]]], o]] (hU s [.dead] 0) = .ok (.str [102, 101, 110, 99, 101], false) (hU s [.dead] 0) := by
  intro o ho _
  simp only [bdF, List.mem_cons, List.not_mem_nil, or_false] at ho
  rcases ho with rfl | rfl | rfl | rfl | rfl | rfl | rfl | rfl | rfl | rfl | rfl | rfl | rfl
  · kernel_rfl
  · kernel_rfl
  · kernel_rfl
  · kernel_rfl
  · kernel_rfl
  · kernel_rfl
  · kernel_rfl
  · kernel_rfl
  · kernel_rfl
  · kernel_rfl
  · kernel_rfl
  · kernel_rfl
  · kernel_rfl
theorem g_some (k : Nat) (s : St) : callN pg (k + 12) i_law_told [(.str [115, 111, 109, 101]), (.lst [.tup [.int 4, .tup [.tup [.int 0, .int 1, .int 2], .tup [.int 0, .int 3, .int 1], .tup [.int 1, .int 2, .int 6]]], .tup [.int 0, .int 3]])] (hU s [.dead] 0) = .ok (.str [], false) (hU s [.dead] 0) := by kernel_rfl
theorem w_some_0 (k : Nat) (s : St) : ∀ o ∈ bdN, ∀ (r0 : D), callN pg (k + 12) i_law_told [(.str [115, 111, 109, 101]), .lst [o, r0]] (hU s [.dead] 0) = .ok (.str [110, 101, 116], false) (hU s [.dead] 0) := by
  intro o ho r0
  simp only [bdN, List.mem_cons, List.not_mem_nil, or_false] at ho
  rcases ho with rfl | rfl | rfl | rfl | rfl | rfl | rfl | rfl | rfl | rfl | rfl | rfl | rfl | rfl | rfl
  · kernel_rfl
  · kernel_rfl
  · kernel_rfl
  · kernel_rfl
  · kernel_rfl
  · kernel_rfl
  · kernel_rfl
  · kernel_rfl
  · kernel_rfl
  · kernel_rfl
  · kernel_rfl
  · kernel_rfl
  · kernel_rfl
  · kernel_rfl
  · kernel_rfl
theorem w_some_1 (k : Nat) (s : St) : ∀ o ∈ bdS, ∀ (_ : Unit), callN pg (k + 12) i_law_told [(.str [115, 111, 109, 101]), .lst [.tup [.int 4, .tup [.tup [.int 0, .int 1, .int 2], .tup [.int 0, .int 3, .int 1], .tup [.int 1, .int 2, .int 6]]], o]] (hU s [.dead] 0) = .ok (.str [115, 111, 109, 101], false) (hU s [.dead] 0) := by
  intro o ho _
  simp only [bdS, List.mem_cons, List.not_mem_nil, or_false] at ho
  rcases ho with rfl | rfl | rfl | rfl | rfl | rfl | rfl | rfl | rfl | rfl | rfl
  · kernel_rfl
  · kernel_rfl
  · kernel_rfl
  · kernel_rfl
  · kernel_rfl
  · kernel_rfl
  · kernel_rfl
  · kernel_rfl
  · kernel_rfl
  · kernel_rfl
  · kernel_rfl
theorem g_weak (k : Nat) (s : St) : callN pg (k + 12) i_law_told [(.str [119, 101, 97, 107]), (.lst [.tup [.int 4, .tup [.tup [.int 0, .int 1, .int 2], .tup [.int 0, .int 3, .int 1], .tup [.int 1, .int 2, .int 6]]], .tup [.tup [.int 0, .int 2, .int 1], .tup [.int 1, .int 3, .int 6]]])] (hU s [.dead] 0) = .ok (.str [], false) (hU s [.dead] 0) := by kernel_rfl
theorem w_weak_0 (k : Nat) (s : St) : ∀ o ∈ bdN, ∀ (r0 : D), callN pg (k + 12) i_law_told [(.str [119, 101, 97, 107]), .lst [o, r0]] (hU s [.dead] 0) = .ok (.str [110, 101, 116], false) (hU s [.dead] 0) := by
  intro o ho r0
  simp only [bdN, List.mem_cons, List.not_mem_nil, or_false] at ho
  rcases ho with rfl | rfl | rfl | rfl | rfl | rfl | rfl | rfl | rfl | rfl | rfl | rfl | rfl | rfl | rfl
  · kernel_rfl
  · kernel_rfl
  · kernel_rfl
  · kernel_rfl
  · kernel_rfl
  · kernel_rfl
  · kernel_rfl
  · kernel_rfl
  · kernel_rfl
  · kernel_rfl
  · kernel_rfl
  · kernel_rfl
  · kernel_rfl
  · kernel_rfl
  · kernel_rfl
theorem w_weak_1 (k : Nat) (s : St) : ∀ o ∈ bdW, ∀ (_ : Unit), callN pg (k + 12) i_law_told [(.str [119, 101, 97, 107]), .lst [.tup [.int 4, .tup [.tup [.int 0, .int 1, .int 2], .tup [.int 0, .int 3, .int 1], .tup [.int 1, .int 2, .int 6]]], o]] (hU s [.dead] 0) = .ok (.str [119, 105, 115, 104, 101, 115], false) (hU s [.dead] 0) := by
  intro o ho _
  simp only [bdW, List.mem_cons, List.not_mem_nil, or_false] at ho
  rcases ho with rfl | rfl | rfl | rfl | rfl | rfl | rfl | rfl | rfl | rfl | rfl | rfl | rfl | rfl
  · kernel_rfl
  · kernel_rfl
  · kernel_rfl
  · kernel_rfl
  · kernel_rfl
  · kernel_rfl
  · kernel_rfl
  · kernel_rfl
  · kernel_rfl
  · kernel_rfl
  · kernel_rfl
  · kernel_rfl
  · kernel_rfl
  · kernel_rfl
theorem g_tight (k : Nat) (s : St) : callN pg (k + 12) i_law_told [(.str [116, 105, 103, 104, 116]), (.lst [.tup [.int 4, .tup [.tup [.int 0, .int 1, .int 2], .tup [.int 0, .int 3, .int 1], .tup [.int 1, .int 2, .int 6]]], .tup [.tup [.int 0, .int 2, .int 1], .tup [.int 1, .int 3, .int 6]]])] (hU s [.dead] 0) = .ok (.str [], false) (hU s [.dead] 0) := by kernel_rfl
theorem w_tight_0 (k : Nat) (s : St) : ∀ o ∈ bdN, ∀ (r0 : D), callN pg (k + 12) i_law_told [(.str [116, 105, 103, 104, 116]), .lst [o, r0]] (hU s [.dead] 0) = .ok (.str [110, 101, 116], false) (hU s [.dead] 0) := by
  intro o ho r0
  simp only [bdN, List.mem_cons, List.not_mem_nil, or_false] at ho
  rcases ho with rfl | rfl | rfl | rfl | rfl | rfl | rfl | rfl | rfl | rfl | rfl | rfl | rfl | rfl | rfl
  · kernel_rfl
  · kernel_rfl
  · kernel_rfl
  · kernel_rfl
  · kernel_rfl
  · kernel_rfl
  · kernel_rfl
  · kernel_rfl
  · kernel_rfl
  · kernel_rfl
  · kernel_rfl
  · kernel_rfl
  · kernel_rfl
  · kernel_rfl
  · kernel_rfl
theorem w_tight_1 (k : Nat) (s : St) : ∀ o ∈ bdW, ∀ (_ : Unit), callN pg (k + 12) i_law_told [(.str [116, 105, 103, 104, 116]), .lst [.tup [.int 4, .tup [.tup [.int 0, .int 1, .int 2], .tup [.int 0, .int 3, .int 1], .tup [.int 1, .int 2, .int 6]]], o]] (hU s [.dead] 0) = .ok (.str [119, 105, 115, 104, 101, 115], false) (hU s [.dead] 0) := by
  intro o ho _
  simp only [bdW, List.mem_cons, List.not_mem_nil, or_false] at ho
  rcases ho with rfl | rfl | rfl | rfl | rfl | rfl | rfl | rfl | rfl | rfl | rfl | rfl | rfl | rfl
  · kernel_rfl
  · kernel_rfl
  · kernel_rfl
  · kernel_rfl
  · kernel_rfl
  · kernel_rfl
  · kernel_rfl
  · kernel_rfl
  · kernel_rfl
  · kernel_rfl
  · kernel_rfl
  · kernel_rfl
  · kernel_rfl
  · kernel_rfl
theorem g_first (k : Nat) (s : St) : callN pg (k + 12) i_law_told [(.str [102, 105, 114, 115, 116]), (.lst [.tup [.int 4, .tup [.tup [.int 0, .int 1, .int 2], .tup [.int 0, .int 3, .int 1], .tup [.int 1, .int 2, .int 6]]], .tup [.tup [.int 0, .int 2, .int 1], .tup [.int 1, .int 3, .int 6]]])] (hU s [.dead] 0) = .ok (.str [], false) (hU s [.dead] 0) := by kernel_rfl
theorem w_first_0 (k : Nat) (s : St) : ∀ o ∈ bdN, ∀ (r0 : D), callN pg (k + 12) i_law_told [(.str [102, 105, 114, 115, 116]), .lst [o, r0]] (hU s [.dead] 0) = .ok (.str [110, 101, 116], false) (hU s [.dead] 0) := by
  intro o ho r0
  simp only [bdN, List.mem_cons, List.not_mem_nil, or_false] at ho
  rcases ho with rfl | rfl | rfl | rfl | rfl | rfl | rfl | rfl | rfl | rfl | rfl | rfl | rfl | rfl | rfl
  · kernel_rfl
  · kernel_rfl
  · kernel_rfl
  · kernel_rfl
  · kernel_rfl
  · kernel_rfl
  · kernel_rfl
  · kernel_rfl
  · kernel_rfl
  · kernel_rfl
  · kernel_rfl
  · kernel_rfl
  · kernel_rfl
  · kernel_rfl
  · kernel_rfl
theorem w_first_1 (k : Nat) (s : St) : ∀ o ∈ bdW, ∀ (_ : Unit), callN pg (k + 12) i_law_told [(.str [102, 105, 114, 115, 116]), .lst [.tup [.int 4, .tup [.tup [.int 0, .int 1, .int 2], .tup [.int 0, .int 3, .int 1], .tup [.int 1, .int 2, .int 6]]], o]] (hU s [.dead] 0) = .ok (.str [119, 105, 115, 104, 101, 115], false) (hU s [.dead] 0) := by
  intro o ho _
  simp only [bdW, List.mem_cons, List.not_mem_nil, or_false] at ho
  rcases ho with rfl | rfl | rfl | rfl | rfl | rfl | rfl | rfl | rfl | rfl | rfl | rfl | rfl | rfl
  · kernel_rfl
  · kernel_rfl
  · kernel_rfl
  · kernel_rfl
  · kernel_rfl
  · kernel_rfl
  · kernel_rfl
  · kernel_rfl
  · kernel_rfl
  · kernel_rfl
  · kernel_rfl
  · kernel_rfl
  · kernel_rfl
  · kernel_rfl
theorem g_odd (k : Nat) (s : St) : callN pg (k + 12) i_law_told [(.str [111, 100, 100]), (.lst [.tup [.int 4, .tup [.tup [.int 0, .int 1, .int 2], .tup [.int 0, .int 3, .int 1], .tup [.int 1, .int 2, .int 6]]], .tup [.tup [.int 0, .int 2, .int 1], .tup [.int 1, .int 3, .int 6]]])] (hU s [.dead] 0) = .ok (.str [], false) (hU s [.dead] 0) := by kernel_rfl
theorem w_odd_0 (k : Nat) (s : St) : ∀ o ∈ bdN, ∀ (r0 : D), callN pg (k + 12) i_law_told [(.str [111, 100, 100]), .lst [o, r0]] (hU s [.dead] 0) = .ok (.str [110, 101, 116], false) (hU s [.dead] 0) := by
  intro o ho r0
  simp only [bdN, List.mem_cons, List.not_mem_nil, or_false] at ho
  rcases ho with rfl | rfl | rfl | rfl | rfl | rfl | rfl | rfl | rfl | rfl | rfl | rfl | rfl | rfl | rfl
  · kernel_rfl
  · kernel_rfl
  · kernel_rfl
  · kernel_rfl
  · kernel_rfl
  · kernel_rfl
  · kernel_rfl
  · kernel_rfl
  · kernel_rfl
  · kernel_rfl
  · kernel_rfl
  · kernel_rfl
  · kernel_rfl
  · kernel_rfl
  · kernel_rfl
theorem w_odd_1 (k : Nat) (s : St) : ∀ o ∈ bdW, ∀ (_ : Unit), callN pg (k + 12) i_law_told [(.str [111, 100, 100]), .lst [.tup [.int 4, .tup [.tup [.int 0, .int 1, .int 2], .tup [.int 0, .int 3, .int 1], .tup [.int 1, .int 2, .int 6]]], o]] (hU s [.dead] 0) = .ok (.str [119, 105, 115, 104, 101, 115], false) (hU s [.dead] 0) := by
  intro o ho _
  simp only [bdW, List.mem_cons, List.not_mem_nil, or_false] at ho
  rcases ho with rfl | rfl | rfl | rfl | rfl | rfl | rfl | rfl | rfl | rfl | rfl | rfl | rfl | rfl
  · kernel_rfl
  · kernel_rfl
  · kernel_rfl
  · kernel_rfl
  · kernel_rfl
  · kernel_rfl
  · kernel_rfl
  · kernel_rfl
  · kernel_rfl
  · kernel_rfl
  · kernel_rfl
  · kernel_rfl
  · kernel_rfl
  · kernel_rfl
theorem g_load (k : Nat) (s : St) : callN pg (k + 12) i_law_told [(.str [108, 111, 97, 100]), (.lst [.tup [.int 4, .tup [.tup [.int 0, .int 1, .int 2], .tup [.int 0, .int 3, .int 1], .tup [.int 1, .int 2, .int 6]]], .tup [.tup [.int 0, .int 2, .int 1], .tup [.int 1, .int 3, .int 6]], .tup [.int 2]])] (hU s [.dead] 0) = .ok (.str [], false) (hU s [.dead] 0) := by kernel_rfl
theorem w_load_0 (k : Nat) (s : St) : ∀ o ∈ bdN, ∀ (r0 : D) (r1 : D), callN pg (k + 12) i_law_told [(.str [108, 111, 97, 100]), .lst [o, r0, r1]] (hU s [.dead] 0) = .ok (.str [110, 101, 116], false) (hU s [.dead] 0) := by
  intro o ho r0 r1
  simp only [bdN, List.mem_cons, List.not_mem_nil, or_false] at ho
  rcases ho with rfl | rfl | rfl | rfl | rfl | rfl | rfl | rfl | rfl | rfl | rfl | rfl | rfl | rfl | rfl
  · kernel_rfl
  · kernel_rfl
  · kernel_rfl
  · kernel_rfl
  · kernel_rfl
  · kernel_rfl
  · kernel_rfl
  · kernel_rfl
  · kernel_rfl
  · kernel_rfl
  · kernel_rfl
  · kernel_rfl
  · kernel_rfl
  · kernel_rfl
  · kernel_rfl
theorem w_load_1 (k : Nat) (s : St) : ∀ o ∈ bdW, ∀ (r0 : D), callN pg (k + 12) i_law_told [(.str [108, 111, 97, 100]), .lst [.tup [.int 4, .tup [.tup [.int 0, .int 1, .int 2], .tup [.int 0, .int 3, .int 1], .tup [.int 1, .int 2, .int 6]]], o, r0]] (hU s [.dead] 0) = .ok (.str [119, 105, 115, 104, 101, 115], false) (hU s [.dead] 0) := by
  intro o ho r0
  simp only [bdW, List.mem_cons, List.not_mem_nil, or_false] at ho
  rcases ho with rfl | rfl | rfl | rfl | rfl | rfl | rfl | rfl | rfl | rfl | rfl | rfl | rfl | rfl
  · kernel_rfl
  · kernel_rfl
  · kernel_rfl
  · kernel_rfl
  · kernel_rfl
  · kernel_rfl
  · kernel_rfl
  · kernel_rfl
  · kernel_rfl
  · kernel_rfl
  · kernel_rfl
  · kernel_rfl
  · kernel_rfl
  · kernel_rfl
theorem w_load_2 (k : Nat) (s : St) : ∀ o ∈ bdF, ∀ (_ : Unit), callN pg (k + 12) i_law_told [(.str [108, 111, 97, 100]), .lst [.tup [.int 4, .tup [.tup [.int 0, .int 1, .int 2], .tup [.int 0, .int 3, .int 1], .tup [.int 1, .int 2, .int 6]]], .tup [.tup [.int 0, .int 2, .int 1], .tup [.int 1, .int 3, .int 6]], o]] (hU s [.dead] 0) = .ok (.str [102, 101, 110, 99, 101], false) (hU s [.dead] 0) := by
  intro o ho _
  simp only [bdF, List.mem_cons, List.not_mem_nil, or_false] at ho
  rcases ho with rfl | rfl | rfl | rfl | rfl | rfl | rfl | rfl | rfl | rfl | rfl | rfl | rfl
  · kernel_rfl
  · kernel_rfl
  · kernel_rfl
  · kernel_rfl
  · kernel_rfl
  · kernel_rfl
  · kernel_rfl
  · kernel_rfl
  · kernel_rfl
  · kernel_rfl
  · kernel_rfl
  · kernel_rfl
  · kernel_rfl
theorem g_room (k : Nat) (s : St) : callN pg (k + 12) i_law_told [(.str [114, 111, 111, 109]), (.lst [.tup [.int 4, .tup [.tup [.int 0, .int 1, .int 2], .tup [.int 0, .int 3, .int 1], .tup [.int 1, .int 2, .int 6]]], .tup [.tup [.int 0, .int 2, .int 1], .tup [.int 1, .int 3, .int 6]], .tup [.int 2]])] (hU s [.dead] 0) = .ok (.str [], false) (hU s [.dead] 0) := by kernel_rfl
theorem w_room_0 (k : Nat) (s : St) : ∀ o ∈ bdN, ∀ (r0 : D) (r1 : D), callN pg (k + 12) i_law_told [(.str [114, 111, 111, 109]), .lst [o, r0, r1]] (hU s [.dead] 0) = .ok (.str [110, 101, 116], false) (hU s [.dead] 0) := by
  intro o ho r0 r1
  simp only [bdN, List.mem_cons, List.not_mem_nil, or_false] at ho
  rcases ho with rfl | rfl | rfl | rfl | rfl | rfl | rfl | rfl | rfl | rfl | rfl | rfl | rfl | rfl | rfl
  · kernel_rfl
  · kernel_rfl
  · kernel_rfl
  · kernel_rfl
  · kernel_rfl
  · kernel_rfl
  · kernel_rfl
  · kernel_rfl
  · kernel_rfl
  · kernel_rfl
  · kernel_rfl
  · kernel_rfl
  · kernel_rfl
  · kernel_rfl
  · kernel_rfl
theorem w_room_1 (k : Nat) (s : St) : ∀ o ∈ bdW, ∀ (r0 : D), callN pg (k + 12) i_law_told [(.str [114, 111, 111, 109]), .lst [.tup [.int 4, .tup [.tup [.int 0, .int 1, .int 2], .tup [.int 0, .int 3, .int 1], .tup [.int 1, .int 2, .int 6]]], o, r0]] (hU s [.dead] 0) = .ok (.str [119, 105, 115, 104, 101, 115], false) (hU s [.dead] 0) := by
  intro o ho r0
  simp only [bdW, List.mem_cons, List.not_mem_nil, or_false] at ho
  rcases ho with rfl | rfl | rfl | rfl | rfl | rfl | rfl | rfl | rfl | rfl | rfl | rfl | rfl | rfl
  · kernel_rfl
  · kernel_rfl
  · kernel_rfl
  · kernel_rfl
  · kernel_rfl
  · kernel_rfl
  · kernel_rfl
  · kernel_rfl
  · kernel_rfl
  · kernel_rfl
  · kernel_rfl
  · kernel_rfl
  · kernel_rfl
  · kernel_rfl
theorem w_room_2 (k : Nat) (s : St) : ∀ o ∈ bdF, ∀ (_ : Unit), callN pg (k + 12) i_law_told [(.str [114, 111, 111, 109]), .lst [.tup [.int 4, .tup [.tup [.int 0, .int 1, .int 2], .tup [.int 0, .int 3, .int 1], .tup [.int 1, .int 2, .int 6]]], .tup [.tup [.int 0, .int 2, .int 1], .tup [.int 1, .int 3, .int 6]], o]] (hU s [.dead] 0) = .ok (.str [102, 101, 110, 99, 101], false) (hU s [.dead] 0) := by
  intro o ho _
  simp only [bdF, List.mem_cons, List.not_mem_nil, or_false] at ho
  rcases ho with rfl | rfl | rfl | rfl | rfl | rfl | rfl | rfl | rfl | rfl | rfl | rfl | rfl
  · kernel_rfl
  · kernel_rfl
  · kernel_rfl
  · kernel_rfl
  · kernel_rfl
  · kernel_rfl
  · kernel_rfl
  · kernel_rfl
  · kernel_rfl
  · kernel_rfl
  · kernel_rfl
  · kernel_rfl
  · kernel_rfl
theorem g_renamed (k : Nat) (s : St) : callN pg (k + 12) i_law_told [(.str [114, 101, 110, 97, 109, 101, 100]), (.lst [.tup [.int 4, .tup [.tup [.int 0, .int 1, .int 2], .tup [.int 0, .int 3, .int 1], .tup [.int 1, .int 2, .int 6]]], .tup [.tup [.int 0, .int 2, .int 1], .tup [.int 1, .int 3, .int 6]], .tup [.int 3, .int 1, .int 0, .int 2]])] (hU s [.dead] 0) = .ok (.str [], false) (hU s [.dead] 0) := by kernel_rfl
theorem w_renamed_0 (k : Nat) (s : St) : ∀ o ∈ bdN, ∀ (r0 : D) (r1 : D), callN pg (k + 12) i_law_told [(.str [114, 101, 110, 97, 109, 101, 100]), .lst [o, r0, r1]] (hU s [.dead] 0) = .ok (.str [110, 101, 116], false) (hU s [.dead] 0) := by
  intro o ho r0 r1
  simp only [bdN, List.mem_cons, List.not_mem_nil, or_false] at ho
  rcases ho with rfl | rfl | rfl | rfl | rfl | rfl | rfl | rfl | rfl | rfl | rfl | rfl | rfl | rfl | rfl
  · kernel_rfl
  · kernel_rfl
  · kernel_rfl
  · kernel_rfl
  · kernel_rfl
  · kernel_rfl
  · kernel_rfl
  · kernel_rfl
  · kernel_rfl
  · kernel_rfl
  · kernel_rfl
  · kernel_rfl
  · kernel_rfl
  · kernel_rfl
  · kernel_rfl
theorem w_renamed_1 (k : Nat) (s : St) : ∀ o ∈ bdW, ∀ (r0 : D), callN pg (k + 12) i_law_told [(.str [114, 101, 110, 97, 109, 101, 100]), .lst [.tup [.int 4, .tup [.tup [.int 0, .int 1, .int 2], .tup [.int 0, .int 3, .int 1], .tup [.int 1, .int 2, .int 6]]], o, r0]] (hU s [.dead] 0) = .ok (.str [119, 105, 115, 104, 101, 115], false) (hU s [.dead] 0) := by
  intro o ho r0
  simp only [bdW, List.mem_cons, List.not_mem_nil, or_false] at ho
  rcases ho with rfl | rfl | rfl | rfl | rfl | rfl | rfl | rfl | rfl | rfl | rfl | rfl | rfl | rfl
  · kernel_rfl
  · kernel_rfl
  · kernel_rfl
  · kernel_rfl
  · kernel_rfl
  · kernel_rfl
  · kernel_rfl
  · kernel_rfl
  · kernel_rfl
  · kernel_rfl
  · kernel_rfl
  · kernel_rfl
  · kernel_rfl
  · kernel_rfl
theorem w_renamed_2 (k : Nat) (s : St) : ∀ o ∈ bdO, ∀ (_ : Unit), callN pg (k + 12) i_law_told [(.str [114, 101, 110, 97, 109, 101, 100]), .lst [.tup [.int 4, .tup [.tup [.int 0, .int 1, .int 2], .tup [.int 0, .int 3, .int 1], .tup [.int 1, .int 2, .int 6]]], .tup [.tup [.int 0, .int 2, .int 1], .tup [.int 1, .int 3, .int 6]], o]] (hU s [.dead] 0) = .ok (.str [111, 114, 100, 101, 114], false) (hU s [.dead] 0) := by
  intro o ho _
  simp only [bdO, List.mem_cons, List.not_mem_nil, or_false] at ho
  rcases ho with rfl | rfl | rfl | rfl | rfl | rfl | rfl | rfl | rfl
  · kernel_rfl
  · kernel_rfl
  · kernel_rfl
  · kernel_rfl
  · kernel_rfl
  · kernel_rfl
  · kernel_rfl
  · kernel_rfl
  · kernel_rfl
theorem g_together (k : Nat) (s : St) : callN pg (k + 12) i_law_told [(.str [116, 111, 103, 101, 116, 104, 101, 114]), (.lst [.tup [.int 4, .tup [.tup [.int 0, .int 1, .int 2], .tup [.int 0, .int 3, .int 1], .tup [.int 1, .int 2, .int 6]]], .tup [.tup [.int 0, .int 2, .int 1], .tup [.int 1, .int 3, .int 6]], .int 1, .int 3])] (hU s [.dead] 0) = .ok (.str [], false) (hU s [.dead] 0) := by kernel_rfl
theorem w_together_0 (k : Nat) (s : St) : ∀ o ∈ bdN, ∀ (r0 : D) (r1 : D) (r2 : D), callN pg (k + 12) i_law_told [(.str [116, 111, 103, 101, 116, 104, 101, 114]), .lst [o, r0, r1, r2]] (hU s [.dead] 0) = .ok (.str [110, 101, 116], false) (hU s [.dead] 0) := by
  intro o ho r0 r1 r2
  simp only [bdN, List.mem_cons, List.not_mem_nil, or_false] at ho
  rcases ho with rfl | rfl | rfl | rfl | rfl | rfl | rfl | rfl | rfl | rfl | rfl | rfl | rfl | rfl | rfl
  · kernel_rfl
  · kernel_rfl
  · kernel_rfl
  · kernel_rfl
  · kernel_rfl
  · kernel_rfl
  · kernel_rfl
  · kernel_rfl
  · kernel_rfl
  · kernel_rfl
  · kernel_rfl
  · kernel_rfl
  · kernel_rfl
  · kernel_rfl
  · kernel_rfl
theorem w_together_1 (k : Nat) (s : St) : ∀ o ∈ bdW, ∀ (r0 : D) (r1 : D), callN pg (k + 12) i_law_told [(.str [116, 111, 103, 101, 116, 104, 101, 114]), .lst [.tup [.int 4, .tup [.tup [.int 0, .int 1, .int 2], .tup [.int 0, .int 3, .int 1], .tup [.int 1, .int 2, .int 6]]], o, r0, r1]] (hU s [.dead] 0) = .ok (.str [119, 105, 115, 104, 101, 115], false) (hU s [.dead] 0) := by
  intro o ho r0 r1
  simp only [bdW, List.mem_cons, List.not_mem_nil, or_false] at ho
  rcases ho with rfl | rfl | rfl | rfl | rfl | rfl | rfl | rfl | rfl | rfl | rfl | rfl | rfl | rfl
  · kernel_rfl
  · kernel_rfl
  · kernel_rfl
  · kernel_rfl
  · kernel_rfl
  · kernel_rfl
  · kernel_rfl
  · kernel_rfl
  · kernel_rfl
  · kernel_rfl
  · kernel_rfl
  · kernel_rfl
  · kernel_rfl
  · kernel_rfl
theorem w_together_2 (k : Nat) (s : St) : ∀ o ∈ bd1, ∀ (r0 : D), callN pg (k + 12) i_law_told [(.str [116, 111, 103, 101, 116, 104, 101, 114]), .lst [.tup [.int 4, .tup [.tup [.int 0, .int 1, .int 2], .tup [.int 0, .int 3, .int 1], .tup [.int 1, .int 2, .int 6]]], .tup [.tup [.int 0, .int 2, .int 1], .tup [.int 1, .int 3, .int 6]], o, r0]] (hU s [.dead] 0) = .ok (.str [111, 110, 101], false) (hU s [.dead] 0) := by
  intro o ho r0
  simp only [bd1, List.mem_cons, List.not_mem_nil, or_false] at ho
  rcases ho with rfl | rfl | rfl | rfl | rfl | rfl
  · kernel_rfl
  · kernel_rfl
  · kernel_rfl
  · kernel_rfl
  · kernel_rfl
  · kernel_rfl
theorem w_together_3 (k : Nat) (s : St) : ∀ o ∈ bd2, ∀ (_ : Unit), callN pg (k + 12) i_law_told [(.str [116, 111, 103, 101, 116, 104, 101, 114]), .lst [.tup [.int 4, .tup [.tup [.int 0, .int 1, .int 2], .tup [.int 0, .int 3, .int 1], .tup [.int 1, .int 2, .int 6]]], .tup [.tup [.int 0, .int 2, .int 1], .tup [.int 1, .int 3, .int 6]], .int 1, o]] (hU s [.dead] 0) = .ok (.str [111, 116, 104, 101, 114], false) (hU s [.dead] 0) := by
  intro o ho _
  simp only [bd2, List.mem_cons, List.not_mem_nil, or_false] at ho
  rcases ho with rfl | rfl | rfl | rfl | rfl | rfl | rfl
  · kernel_rfl
  · kernel_rfl
  · kernel_rfl
  · kernel_rfl
  · kernel_rfl
  · kernel_rfl
  · kernel_rfl
end k07
end Rw
end

section
set_option Elab.async false
set_option linter.all false
set_option maxRecDepth 100000
set_option maxHeartbeats 4000000
namespace Rw
namespace k07
def rws : List D := [.tup [.str [102, 101, 110, 99, 101, 115], .lst [.tup [.int 4, .tup [.tup [.int 0, .int 1, .int 2], .tup [.int 0, .int 3, .int 1], .tup [.int 1, .int 2, .int 6]]]], .lst [.lst bdN], .lst [.str [110, 101, 116]]], .tup [.str [119, 105, 100, 116, 104, 115], .lst [.tup [.int 4, .tup [.tup [.int 0, .int 1, .int 2], .tup [.int 0, .int 3, .int 1], .tup [.int 1, .int 2, .int 6]]]], .lst [.lst bdN], .lst [.str [110, 101, 116]]], .tup [.str [112, 97, 114, 116, 115], .lst [.tup [.int 4, .tup [.tup [.int 0, .int 1, .int 2], .tup [.int 0, .int 3, .int 1], .tup [.int 1, .int 2, .int 6]]]], .lst [.lst bdN], .lst [.str [110, 101, 116]]], .tup [.str [97, 114, 101], .lst [.tup [.int 4, .tup [.tup [.int 0, .int 1, .int 2], .tup [.int 0, .int 3, .int 1], .tup [.int 1, .int 2, .int 6]]]], .lst [.lst bdN], .lst [.str [110, 101, 116]]], .tup [.str [105, 115], .lst [.tup [.int 4, .tup [.tup [.int 0, .int 1, .int 2], .tup [.int 0, .int 3, .int 1], .tup [.int 1, .int 2, .int 6]]]], .lst [.lst bdN], .lst [.str [110, 101, 116]]], .tup [.str [119, 105, 100, 116, 104], .lst [.tup [.int 4, .tup [.tup [.int 0, .int 1, .int 2], .tup [.int 0, .int 3, .int 1], .tup [.int 1, .int 2, .int 6]]], .tup [.int 1, .int 3]], .lst [.lst bdN, .lst bdF], .lst [.str [110, 101, 116], .str [102, 101, 110, 99, 101]]], .tup [.str [115, 111, 109, 101], .lst [.tup [.int 4, .tup [.tup [.int 0, .int 1, .int 2], .tup [.int 0, .int 3, .int 1], .tup [.int 1, .int 2, .int 6]]], .tup [.int 0, .int 3]], .lst [.lst bdN, .lst bdS], .lst [.str [110, 101, 116], .str [115, 111, 109, 101]]], .tup [.str [119, 101, 97, 107], .lst [.tup [.int 4, .tup [.tup [.int 0, .int 1, .int 2], .tup [.int 0, .int 3, .int 1], .tup [.int 1, .int 2, .int 6]]], .tup [.tup [.int 0, .int 2, .int 1], .tup [.int 1, .int 3, .int 6]]], .lst [.lst bdN, .lst bdW], .lst [.str [110, 101, 116], .str [119, 105, 115, 104, 101, 115]]], .tup [.str [116, 105, 103, 104, 116], .lst [.tup [.int 4, .tup [.tup [.int 0, .int 1, .int 2], .tup [.int 0, .int 3, .int 1], .tup [.int 1, .int 2, .int 6]]], .tup [.tup [.int 0, .int 2, .int 1], .tup [.int 1, .int 3, .int 6]]], .lst [.lst bdN, .lst bdW], .lst [.str [110, 101, 116], .str [119, 105, 115, 104, 101, 115]]], .tup [.str [102, 105, 114, 115, 116], .lst [.tup [.int 4, .tup [.tup [.int 0, .int 1, .int 2], .tup [.int 0, .int 3, .int 1], .tup [.int 1, .int 2, .int 6]]], .tup [.tup [.int 0, .int 2, .int 1], .tup [.int 1, .int 3, .int 6]]], .lst [.lst bdN, .lst bdW], .lst [.str [110, 101, 116], .str [119, 105, 115, 104, 101, 115]]], .tup [.str [111, 100, 100], .lst [.tup [.int 4, .tup [.tup [.int 0, .int 1, .int 2], .tup [.int 0, .int 3, .int 1], .tup [.int 1, .int 2, .int 6]]], .tup [.tup [.int 0, .int 2, .int 1], .tup [.int 1, .int 3, .int 6]]], .lst [.lst bdN, .lst bdW], .lst [.str [110, 101, 116], .str [119, 105, 115, 104, 101, 115]]], .tup [.str [108, 111, 97, 100], .lst [.tup [.int 4, .tup [.tup [.int 0, .int 1, .int 2], .tup [.int 0, .int 3, .int 1], .tup [.int 1, .int 2, .int 6]]], .tup [.tup [.int 0, .int 2, .int 1], .tup [.int 1, .int 3, .int 6]], .tup [.int 2]], .lst [.lst bdN, .lst bdW, .lst bdF], .lst [.str [110, 101, 116], .str [119, 105, 115, 104, 101, 115], .str [102, 101, 110, 99, 101]]], .tup [.str [114, 111, 111, 109], .lst [.tup [.int 4, .tup [.tup [.int 0, .int 1, .int 2], .tup [.int 0, .int 3, .int 1], .tup [.int 1, .int 2, .int 6]]], .tup [.tup [.int 0, .int 2, .int 1], .tup [.int 1, .int 3, .int 6]], .tup [.int 2]], .lst [.lst bdN, .lst bdW, .lst bdF], .lst [.str [110, 101, 116], .str [119, 105, 115, 104, 101, 115], .str [102, 101, 110, 99, 101]]], .tup [.str [114, 101, 110, 97, 109, 101, 100], .lst [.tup [.int 4, .tup [.tup [.int 0, .int 1, .int 2], .tup [.int 0, .int 3, .int 1], .tup [.int 1, .int 2, .int 6]]], .tup [.tup [.int 0, .int 2, .int 1], .tup [.int 1, .int 3, .int 6]], .tup [.int 3, .int 1, .int 0, .int 2]], .lst [.lst bdN, .lst bdW, .lst bdO], .lst [.str [110, 101, 116], .str [119, 105, 115, 104, 101, 115], .str [111, 114, 100, 101, 114]]], .tup [.str [116, 111, 103, 101, 116, 104, 101, 114], .lst [.tup [.int 4, .tup [.tup [.int 0, .int 1, .int 2], .tup [.int 0, .int 3, .int 1], .tup [.int 1, .int 2, .int 6]]], .tup [.tup [.int 0, .int 2, .int 1], .tup [.int 1, .int 3, .int 6]], .int 1, .int 3], .lst [.lst bdN, .lst bdW, .lst bd1, .lst bd2], .lst [.str [110, 101, 116], .str [119, 105, 115, 104, 101, 115], .str [111, 110, 101], .str [111, 116, 104, 101, 114]]]]
abbrev KK : Kn := ⟨pg.g, pg.anc, pg.fld, callN pg 39⟩
def EV (ns : List Int) (o13 o15 o16 o17 o18 o19 o20 o21 : Option D) : Env := [some (.scr ns), some (.ref 0), some (.tup [.tup [.int 0, .int 1, .int 2], .tup [.int 0, .int 3, .int 1], .tup [.int 1, .int 2, .int 6]]), some (.tup [.tup [.int 0, .int 2, .int 1], .tup [.int 1, .int 3, .int 6]]), some (.tup [.int 4, .tup [.tup [.int 0, .int 1, .int 2], .tup [.int 0, .int 3, .int 1], .tup [.int 1, .int 2, .int 6]]]), some (.lst bdN), some (.lst bdW), some (.lst bdF), some (.lst bdS), some (.lst bdO), some (.lst bd1), some (.lst bd2), some (.lst rws), o13, some (.lst [.lst bdN, .lst bdW]), o15, o16, o17, o18, o19, o20, o21, none, none, none, none, none]
theorem st1 (ns : List Int) (s : St) : ssEv (evN KK 60) ((f_law.body.drop 1).take 19) [some (.scr ns), some (.ref 0), none, none, none, none, none, none, none, none, none, none, none, none, none, none, none, none, none, none, none, none, none, none, none, none, none] (hU s [] 0) = .nx (EV ns none none none none none none none none) (hU s [.dead] 0) := by kernel_rfl
theorem st2 (ns : List Int) (s : St) (o13 o15 o16 o17 o18 o19 o20 o21 : Option D) : ssEv (evN KK 60) r_law_1 (EV ns o13 o15 o16 o17 o18 o19 o20 o21) (hU s [.dead] 0) = .rt (.bl true) false (hU s [.dead, .lst [.str [110, 111], .str [111, 116, 104, 101, 114], .str [111, 116, 104, 101, 114], .str [111, 116, 104, 101, 114]], .lst [.str [110, 111], .str [111, 116, 104, 101, 114], .str [111, 116, 104, 101, 114], .str [111, 116, 104, 101, 114], .str [111, 116, 104, 101, 114], .str [111, 116, 104, 101, 114], .str [111, 116, 104, 101, 114], .str [111, 114, 100, 101, 114]], .lst [.str [110, 111], .str [111, 116, 104, 101, 114], .str [111, 116, 104, 101, 114], .str [111, 116, 104, 101, 114], .str [111, 116, 104, 101, 114], .str [111, 116, 104, 101, 114], .str [111, 116, 104, 101, 114], .str [111, 114, 100, 101, 114], .str [119, 105, 115, 104, 101, 115], .str [111, 110, 101]], .lst [.str [110, 111], .str [111, 116, 104, 101, 114], .str [111, 116, 104, 101, 114], .str [111, 116, 104, 101, 114], .str [111, 116, 104, 101, 114], .str [111, 116, 104, 101, 114], .str [111, 116, 104, 101, 114], .str [111, 114, 100, 101, 114], .str [119, 105, 115, 104, 101, 115], .str [111, 110, 101], .str [110, 111], .str [111, 116, 104, 101, 114]]] 0) := by kernel_rfl
end k07
end Rw
end

section
set_option Elab.async false
set_option linter.all false
set_option maxRecDepth 100000
set_option maxHeartbeats 4000000
namespace Rw
namespace k07
structure RowOk (word : D) (good : List D) (bad : List (List D)) (nm : List (List Nat)) : Prop where
  len : bad.length = good.length
  ln : nm.length = good.length
  l4 : good.length ≤ 4
  pos : ∀ b ∈ bad, 0 < b.length ∧ b.length ≤ 1000 ∧ ∀ d ∈ b, d.top = 0
  ok : ∀ s : St, callN pg 39 i_law_told [word, .lst good] (hU s [.dead] 0) = .ok (.str [], false) (hU s [.dead] 0)
  no : ∀ W, F2 (fun (b : List D) (o : D) => o ∈ b) bad W → ∀ k : Nat, k < good.length → ∀ s : St, callN pg 39 i_law_told [word, .lst (good.take k ++ [at' W (k : Int)] ++ good.drop (k + 1))] (hU s [.dead] 0) = .ok (.str (at' nm (k : Int)), false) (hU s [.dead] 0) ∧ callN pg 39 i_law_told [word, .lst (good.take k ++ W.drop k)] (hU s [.dead] 0) = .ok (.str (at' nm (k : Int)), false) (hU s [.dead] 0)
theorem bpos : ∀ b ∈ [bdN, bdW, bdF, bdS, bdO, bd1, bd2], 0 < b.length ∧ b.length ≤ 1000 ∧ ∀ d ∈ b, d.top = 0 := by
  intro b hb
  simp only [List.mem_cons, List.not_mem_nil, or_false] at hb
  rcases hb with rfl | rfl | rfl | rfl | rfl | rfl | rfl
  all_goals exact ⟨by decide, by decide, by
    intro d hd
    simp only [bdN, bdW, bdF, bdS, bdO, bd1, bd2, List.mem_cons, List.not_mem_nil, or_false] at hd
    rcases hd with rfl | rfl | rfl | rfl | rfl | rfl | rfl | rfl | rfl | rfl | rfl | rfl | rfl | rfl | rfl <;> rfl⟩
theorem row_fences : RowOk (.str [102, 101, 110, 99, 101, 115]) [.tup [.int 4, .tup [.tup [.int 0, .int 1, .int 2], .tup [.int 0, .int 3, .int 1], .tup [.int 1, .int 2, .int 6]]]] [bdN] [[110, 101, 116]] := by
  refine ⟨rfl, rfl, by decide, fun b hb => bpos b (by simp only [List.mem_cons, List.not_mem_nil, or_false] at hb ⊢; rcases hb with rfl <;> simp), fun s => g_fences 27 s, fun W hW k hk s => ?_⟩
  cases hW with | cons h0 hW =>
  cases hW
  match k, hk with
  | 0, _ => exact ⟨w_fences_0 27 s _ h0 (), w_fences_0 27 s _ h0 ()⟩
theorem row_widths : RowOk (.str [119, 105, 100, 116, 104, 115]) [.tup [.int 4, .tup [.tup [.int 0, .int 1, .int 2], .tup [.int 0, .int 3, .int 1], .tup [.int 1, .int 2, .int 6]]]] [bdN] [[110, 101, 116]] := by
  refine ⟨rfl, rfl, by decide, fun b hb => bpos b (by simp only [List.mem_cons, List.not_mem_nil, or_false] at hb ⊢; rcases hb with rfl <;> simp), fun s => g_widths 27 s, fun W hW k hk s => ?_⟩
  cases hW with | cons h0 hW =>
  cases hW
  match k, hk with
  | 0, _ => exact ⟨w_widths_0 27 s _ h0 (), w_widths_0 27 s _ h0 ()⟩
theorem row_parts : RowOk (.str [112, 97, 114, 116, 115]) [.tup [.int 4, .tup [.tup [.int 0, .int 1, .int 2], .tup [.int 0, .int 3, .int 1], .tup [.int 1, .int 2, .int 6]]]] [bdN] [[110, 101, 116]] := by
  refine ⟨rfl, rfl, by decide, fun b hb => bpos b (by simp only [List.mem_cons, List.not_mem_nil, or_false] at hb ⊢; rcases hb with rfl <;> simp), fun s => g_parts 27 s, fun W hW k hk s => ?_⟩
  cases hW with | cons h0 hW =>
  cases hW
  match k, hk with
  | 0, _ => exact ⟨w_parts_0 27 s _ h0 (), w_parts_0 27 s _ h0 ()⟩
theorem row_are : RowOk (.str [97, 114, 101]) [.tup [.int 4, .tup [.tup [.int 0, .int 1, .int 2], .tup [.int 0, .int 3, .int 1], .tup [.int 1, .int 2, .int 6]]]] [bdN] [[110, 101, 116]] := by
  refine ⟨rfl, rfl, by decide, fun b hb => bpos b (by simp only [List.mem_cons, List.not_mem_nil, or_false] at hb ⊢; rcases hb with rfl <;> simp), fun s => g_are 27 s, fun W hW k hk s => ?_⟩
  cases hW with | cons h0 hW =>
  cases hW
  match k, hk with
  | 0, _ => exact ⟨w_are_0 27 s _ h0 (), w_are_0 27 s _ h0 ()⟩
theorem row_is : RowOk (.str [105, 115]) [.tup [.int 4, .tup [.tup [.int 0, .int 1, .int 2], .tup [.int 0, .int 3, .int 1], .tup [.int 1, .int 2, .int 6]]]] [bdN] [[110, 101, 116]] := by
  refine ⟨rfl, rfl, by decide, fun b hb => bpos b (by simp only [List.mem_cons, List.not_mem_nil, or_false] at hb ⊢; rcases hb with rfl <;> simp), fun s => g_is 27 s, fun W hW k hk s => ?_⟩
  cases hW with | cons h0 hW =>
  cases hW
  match k, hk with
  | 0, _ => exact ⟨w_is_0 27 s _ h0 (), w_is_0 27 s _ h0 ()⟩
theorem row_width : RowOk (.str [119, 105, 100, 116, 104]) [.tup [.int 4, .tup [.tup [.int 0, .int 1, .int 2], .tup [.int 0, .int 3, .int 1], .tup [.int 1, .int 2, .int 6]]], .tup [.int 1, .int 3]] [bdN, bdF] [[110, 101, 116], [102, 101, 110, 99, 101]] := by
  refine ⟨rfl, rfl, by decide, fun b hb => bpos b (by simp only [List.mem_cons, List.not_mem_nil, or_false] at hb ⊢; rcases hb with rfl | rfl <;> simp), fun s => g_width 27 s, fun W hW k hk s => ?_⟩
  cases hW with | cons h0 hW =>
  cases hW with | cons h1 hW =>
  cases hW
  match k, hk with
  | 0, _ => exact ⟨w_width_0 27 s _ h0 (.tup [.int 1, .int 3]), w_width_0 27 s _ h0 _⟩
  | 1, _ => exact ⟨w_width_1 27 s _ h1 (), w_width_1 27 s _ h1 ()⟩
theorem row_some : RowOk (.str [115, 111, 109, 101]) [.tup [.int 4, .tup [.tup [.int 0, .int 1, .int 2], .tup [.int 0, .int 3, .int 1], .tup [.int 1, .int 2, .int 6]]], .tup [.int 0, .int 3]] [bdN, bdS] [[110, 101, 116], [115, 111, 109, 101]] := by
  refine ⟨rfl, rfl, by decide, fun b hb => bpos b (by simp only [List.mem_cons, List.not_mem_nil, or_false] at hb ⊢; rcases hb with rfl | rfl <;> simp), fun s => g_some 27 s, fun W hW k hk s => ?_⟩
  cases hW with | cons h0 hW =>
  cases hW with | cons h1 hW =>
  cases hW
  match k, hk with
  | 0, _ => exact ⟨w_some_0 27 s _ h0 (.tup [.int 0, .int 3]), w_some_0 27 s _ h0 _⟩
  | 1, _ => exact ⟨w_some_1 27 s _ h1 (), w_some_1 27 s _ h1 ()⟩
theorem row_weak : RowOk (.str [119, 101, 97, 107]) [.tup [.int 4, .tup [.tup [.int 0, .int 1, .int 2], .tup [.int 0, .int 3, .int 1], .tup [.int 1, .int 2, .int 6]]], .tup [.tup [.int 0, .int 2, .int 1], .tup [.int 1, .int 3, .int 6]]] [bdN, bdW] [[110, 101, 116], [119, 105, 115, 104, 101, 115]] := by
  refine ⟨rfl, rfl, by decide, fun b hb => bpos b (by simp only [List.mem_cons, List.not_mem_nil, or_false] at hb ⊢; rcases hb with rfl | rfl <;> simp), fun s => g_weak 27 s, fun W hW k hk s => ?_⟩
  cases hW with | cons h0 hW =>
  cases hW with | cons h1 hW =>
  cases hW
  match k, hk with
  | 0, _ => exact ⟨w_weak_0 27 s _ h0 (.tup [.tup [.int 0, .int 2, .int 1], .tup [.int 1, .int 3, .int 6]]), w_weak_0 27 s _ h0 _⟩
  | 1, _ => exact ⟨w_weak_1 27 s _ h1 (), w_weak_1 27 s _ h1 ()⟩
theorem row_tight : RowOk (.str [116, 105, 103, 104, 116]) [.tup [.int 4, .tup [.tup [.int 0, .int 1, .int 2], .tup [.int 0, .int 3, .int 1], .tup [.int 1, .int 2, .int 6]]], .tup [.tup [.int 0, .int 2, .int 1], .tup [.int 1, .int 3, .int 6]]] [bdN, bdW] [[110, 101, 116], [119, 105, 115, 104, 101, 115]] := by
  refine ⟨rfl, rfl, by decide, fun b hb => bpos b (by simp only [List.mem_cons, List.not_mem_nil, or_false] at hb ⊢; rcases hb with rfl | rfl <;> simp), fun s => g_tight 27 s, fun W hW k hk s => ?_⟩
  cases hW with | cons h0 hW =>
  cases hW with | cons h1 hW =>
  cases hW
  match k, hk with
  | 0, _ => exact ⟨w_tight_0 27 s _ h0 (.tup [.tup [.int 0, .int 2, .int 1], .tup [.int 1, .int 3, .int 6]]), w_tight_0 27 s _ h0 _⟩
  | 1, _ => exact ⟨w_tight_1 27 s _ h1 (), w_tight_1 27 s _ h1 ()⟩
theorem row_first : RowOk (.str [102, 105, 114, 115, 116]) [.tup [.int 4, .tup [.tup [.int 0, .int 1, .int 2], .tup [.int 0, .int 3, .int 1], .tup [.int 1, .int 2, .int 6]]], .tup [.tup [.int 0, .int 2, .int 1], .tup [.int 1, .int 3, .int 6]]] [bdN, bdW] [[110, 101, 116], [119, 105, 115, 104, 101, 115]] := by
  refine ⟨rfl, rfl, by decide, fun b hb => bpos b (by simp only [List.mem_cons, List.not_mem_nil, or_false] at hb ⊢; rcases hb with rfl | rfl <;> simp), fun s => g_first 27 s, fun W hW k hk s => ?_⟩
  cases hW with | cons h0 hW =>
  cases hW with | cons h1 hW =>
  cases hW
  match k, hk with
  | 0, _ => exact ⟨w_first_0 27 s _ h0 (.tup [.tup [.int 0, .int 2, .int 1], .tup [.int 1, .int 3, .int 6]]), w_first_0 27 s _ h0 _⟩
  | 1, _ => exact ⟨w_first_1 27 s _ h1 (), w_first_1 27 s _ h1 ()⟩
theorem row_odd : RowOk (.str [111, 100, 100]) [.tup [.int 4, .tup [.tup [.int 0, .int 1, .int 2], .tup [.int 0, .int 3, .int 1], .tup [.int 1, .int 2, .int 6]]], .tup [.tup [.int 0, .int 2, .int 1], .tup [.int 1, .int 3, .int 6]]] [bdN, bdW] [[110, 101, 116], [119, 105, 115, 104, 101, 115]] := by
  refine ⟨rfl, rfl, by decide, fun b hb => bpos b (by simp only [List.mem_cons, List.not_mem_nil, or_false] at hb ⊢; rcases hb with rfl | rfl <;> simp), fun s => g_odd 27 s, fun W hW k hk s => ?_⟩
  cases hW with | cons h0 hW =>
  cases hW with | cons h1 hW =>
  cases hW
  match k, hk with
  | 0, _ => exact ⟨w_odd_0 27 s _ h0 (.tup [.tup [.int 0, .int 2, .int 1], .tup [.int 1, .int 3, .int 6]]), w_odd_0 27 s _ h0 _⟩
  | 1, _ => exact ⟨w_odd_1 27 s _ h1 (), w_odd_1 27 s _ h1 ()⟩
theorem row_load : RowOk (.str [108, 111, 97, 100]) [.tup [.int 4, .tup [.tup [.int 0, .int 1, .int 2], .tup [.int 0, .int 3, .int 1], .tup [.int 1, .int 2, .int 6]]], .tup [.tup [.int 0, .int 2, .int 1], .tup [.int 1, .int 3, .int 6]], .tup [.int 2]] [bdN, bdW, bdF] [[110, 101, 116], [119, 105, 115, 104, 101, 115], [102, 101, 110, 99, 101]] := by
  refine ⟨rfl, rfl, by decide, fun b hb => bpos b (by simp only [List.mem_cons, List.not_mem_nil, or_false] at hb ⊢; rcases hb with rfl | rfl | rfl <;> simp), fun s => g_load 27 s, fun W hW k hk s => ?_⟩
  cases hW with | cons h0 hW =>
  cases hW with | cons h1 hW =>
  cases hW with | cons h2 hW =>
  cases hW
  match k, hk with
  | 0, _ => exact ⟨w_load_0 27 s _ h0 (.tup [.tup [.int 0, .int 2, .int 1], .tup [.int 1, .int 3, .int 6]]) (.tup [.int 2]), w_load_0 27 s _ h0 _ _⟩
  | 1, _ => exact ⟨w_load_1 27 s _ h1 (.tup [.int 2]), w_load_1 27 s _ h1 _⟩
  | 2, _ => exact ⟨w_load_2 27 s _ h2 (), w_load_2 27 s _ h2 ()⟩
theorem row_room : RowOk (.str [114, 111, 111, 109]) [.tup [.int 4, .tup [.tup [.int 0, .int 1, .int 2], .tup [.int 0, .int 3, .int 1], .tup [.int 1, .int 2, .int 6]]], .tup [.tup [.int 0, .int 2, .int 1], .tup [.int 1, .int 3, .int 6]], .tup [.int 2]] [bdN, bdW, bdF] [[110, 101, 116], [119, 105, 115, 104, 101, 115], [102, 101, 110, 99, 101]] := by
  refine ⟨rfl, rfl, by decide, fun b hb => bpos b (by simp only [List.mem_cons, List.not_mem_nil, or_false] at hb ⊢; rcases hb with rfl | rfl | rfl <;> simp), fun s => g_room 27 s, fun W hW k hk s => ?_⟩
  cases hW with | cons h0 hW =>
  cases hW with | cons h1 hW =>
  cases hW with | cons h2 hW =>
  cases hW
  match k, hk with
  | 0, _ => exact ⟨w_room_0 27 s _ h0 (.tup [.tup [.int 0, .int 2, .int 1], .tup [.int 1, .int 3, .int 6]]) (.tup [.int 2]), w_room_0 27 s _ h0 _ _⟩
  | 1, _ => exact ⟨w_room_1 27 s _ h1 (.tup [.int 2]), w_room_1 27 s _ h1 _⟩
  | 2, _ => exact ⟨w_room_2 27 s _ h2 (), w_room_2 27 s _ h2 ()⟩
theorem row_renamed : RowOk (.str [114, 101, 110, 97, 109, 101, 100]) [.tup [.int 4, .tup [.tup [.int 0, .int 1, .int 2], .tup [.int 0, .int 3, .int 1], .tup [.int 1, .int 2, .int 6]]], .tup [.tup [.int 0, .int 2, .int 1], .tup [.int 1, .int 3, .int 6]], .tup [.int 3, .int 1, .int 0, .int 2]] [bdN, bdW, bdO] [[110, 101, 116], [119, 105, 115, 104, 101, 115], [111, 114, 100, 101, 114]] := by
  refine ⟨rfl, rfl, by decide, fun b hb => bpos b (by simp only [List.mem_cons, List.not_mem_nil, or_false] at hb ⊢; rcases hb with rfl | rfl | rfl <;> simp), fun s => g_renamed 27 s, fun W hW k hk s => ?_⟩
  cases hW with | cons h0 hW =>
  cases hW with | cons h1 hW =>
  cases hW with | cons h2 hW =>
  cases hW
  match k, hk with
  | 0, _ => exact ⟨w_renamed_0 27 s _ h0 (.tup [.tup [.int 0, .int 2, .int 1], .tup [.int 1, .int 3, .int 6]]) (.tup [.int 3, .int 1, .int 0, .int 2]), w_renamed_0 27 s _ h0 _ _⟩
  | 1, _ => exact ⟨w_renamed_1 27 s _ h1 (.tup [.int 3, .int 1, .int 0, .int 2]), w_renamed_1 27 s _ h1 _⟩
  | 2, _ => exact ⟨w_renamed_2 27 s _ h2 (), w_renamed_2 27 s _ h2 ()⟩
theorem row_together : RowOk (.str [116, 111, 103, 101, 116, 104, 101, 114]) [.tup [.int 4, .tup [.tup [.int 0, .int 1, .int 2], .tup [.int 0, .int 3, .int 1], .tup [.int 1, .int 2, .int 6]]], .tup [.tup [.int 0, .int 2, .int 1], .tup [.int 1, .int 3, .int 6]], .int 1, .int 3] [bdN, bdW, bd1, bd2] [[110, 101, 116], [119, 105, 115, 104, 101, 115], [111, 110, 101], [111, 116, 104, 101, 114]] := by
  refine ⟨rfl, rfl, by decide, fun b hb => bpos b (by simp only [List.mem_cons, List.not_mem_nil, or_false] at hb ⊢; rcases hb with rfl | rfl | rfl | rfl <;> simp), fun s => g_together 27 s, fun W hW k hk s => ?_⟩
  cases hW with | cons h0 hW =>
  cases hW with | cons h1 hW =>
  cases hW with | cons h2 hW =>
  cases hW with | cons h3 hW =>
  cases hW
  match k, hk with
  | 0, _ => exact ⟨w_together_0 27 s _ h0 (.tup [.tup [.int 0, .int 2, .int 1], .tup [.int 1, .int 3, .int 6]]) (.int 1) (.int 3), w_together_0 27 s _ h0 _ _ _⟩
  | 1, _ => exact ⟨w_together_1 27 s _ h1 (.int 1) (.int 3), w_together_1 27 s _ h1 _ _⟩
  | 2, _ => exact ⟨w_together_2 27 s _ h2 (.int 3), w_together_2 27 s _ h2 _⟩
  | 3, _ => exact ⟨w_together_3 27 s _ h3 (), w_together_3 27 s _ h3 ()⟩
end k07
end Rw
end

section
set_option Elab.async false
set_option linter.all false
set_option maxRecDepth 100000
set_option maxHeartbeats 4000000
namespace Rw
namespace k07
theorem bin_lst (h : AH) (xs ys : List D) (l : xs.length + ys.length ≤ 1000000) : binEv .add h (.lst xs) (.lst ys) = some (.lst (xs ++ ys), true) := by
  show (if xs.length + ys.length ≤ LN then _ else _) = _
  rw [if_pos (show xs.length + ys.length ≤ LN from l)]
theorem F2.len {α β : Type} {Q : α → β → Prop} {xs : List α} {ys : List β} (h : F2 Q xs ys) : ys.length = xs.length := by
  induction h with
  | nil => rfl
  | cons _ _ ih => simp [ih]
theorem picks {body : D → AH → Rw.R (Option D)} (hb : ∀ (b : List D) (s : St), 0 < b.length → b.length ≤ 1000 → (∀ d ∈ b, d.top = 0) → ∃ o s', o ∈ b ∧ body (.lst b) (hU s [.dead] 0) = .ok (some o) (hU s' [.dead] 0)) : ∀ (bad : List (List D)) (s : St), (∀ b ∈ bad, 0 < b.length ∧ b.length ≤ 1000 ∧ ∀ d ∈ b, d.top = 0) →
    ∃ W s', F2 (fun (b : List D) (o : D) => o ∈ b) bad W ∧ lcEv body (bad.map .lst) (hU s [.dead] 0) = .ok W (hU s' [.dead] 0)
  | [], s, _ => ⟨[], s, .nil, rfl⟩
  | b :: bad, s, h => by
    obtain ⟨p1, p2, p3⟩ := h b (List.mem_cons_self ..)
    obtain ⟨o, s1, m, e1⟩ := hb b s p1 p2 p3
    obtain ⟨W, s2, f, e2⟩ := picks hb bad s1 fun x hx => h x (List.mem_cons_of_mem _ hx)
    refine ⟨o :: W, s2, .cons m f, ?_⟩
    rw [List.map_cons]
    unfold lcEv
    rw [e1, b_ok, e2, b_ok]
def EW (ns : List Int) (word : D) (good : List D) (bad : List (List D)) (nm : List (List Nat)) (o18 o19 o20 o21 : Option D) : Env := EV ns (some word) (some (.lst good)) (some (.lst (bad.map .lst))) (some (.lst (nm.map .str))) o18 o19 o20 o21
theorem turn1 {K : Kn} (hK : K.call = callN pg 39) {ns : List Int} {word : D} {good : List D} {bad : List (List D)} {nm : List (List Nat)} (r : RowOk word good bad nm) (s : St) (k : Nat) (hk : k < good.length) (o19 o20 o21 : Option D) :
    Nx (ssEv (evN K 58) b_law_1 (EW ns word good bad nm (some (.int k)) o19 o20 o21) (hU s [.dead] 0)) (fun env h' => (∃ o19 o20, env = EW ns word good bad nm (some (.int k)) o19 o20 o21) ∧ ∃ s', h' = hU s' [.dead] 0) := by
  have l4 := r.l4
  have ln := r.ln
  obtain ⟨W, s1, hW, e1⟩ := picks (body := fun x h => (turnEv (evN K 56) (.nm 21) [21] none (.call i_law_pick [(.v 1), (.v 21)]) (EW ns word good bad nm (some (.int k)) o19 o20 o21) x h).nox) (fun b s p1 p2 p3 => by
    have e := pick_ok 37 s [.dead] 0 b p1 p2 p3
    refine ⟨at' b (s.vl b.length), s.nx b.length, at_mem (s.vl_nn (m := b.length) (by omega)) (s.vl_lt (by omega)), ?_⟩
    generalize at' b (s.vl b.length) = ob1 at *
    generalize hU (s.nx b.length) [.dead] 0 = h1 at *
    generalize hU s [.dead] 0 = h0 at *
    unfold EW EV
    generalize rws = R1 at *
    simp (implicitDefEqProofs := false) [turn_def, hK, e]) bad s r.pos
  have lW := F2.len hW
  rw [r.len] at lW
  have b1 : (evN K 57).e (.lc (.nm 21) [21] (.sq (.v 16)) none (.call i_law_pick [(.v 1), (.v 21)])) (EW ns word good bad nm (some (.int k)) o19 o20 o21) (hU s [.dead] 0) = .ok (.lst W, true) (hU s1 [.dead] 0) := by
    have it : itEv (evN K 56) (.sq (.v 16)) (EW ns word good bad nm (some (.int k)) o19 o20 o21) (hU s [.dead] 0) = .ok (bad.map .lst) (hU s [.dead] 0) := by
      unfold EW EV
      generalize rws = R1 at *
      generalize bad.map D.lst = BL at *
      simp (implicitDefEqProofs := false)
    rw [xlc', it, b_ok, kLc1_at, e1, b_ok, kLc2_at, if_pos (by rw [List.length_map, r.len]; show _ ≤ 1000000; omega)]
  obtain ⟨t1, t2⟩ := r.no W hW k hk s1
  have kk : (0 : Int) ≤ k := by omega
  have xw : ixEv (hU s1 [.dead] 0) (.lst W) (.int k) = some (at' W (k : Int), false) := by
    have := ix_lm (h := hU s1 [.dead] 0) (f := id) (xs := W) (i := (k : Int)) kk (by omega)
    rw [List.map_id] at this
    exact this
  have xn := ix_lm (h := hU s1 [.dead] 0) (f := D.str) (xs := nm) (i := (k : Int)) kk (by omega)
  have s1' : slEv (hU s1 [.dead] 0) (.lst good) none (some (k : Int)) = some (.lst (good.take k), true) := by
    show some (D.lst (cut good none (some (k : Int))), true) = _
    rw [cut_lo _ kk (by omega), Int.toNat_natCast]
  have s2' : slEv (hU s1 [.dead] 0) (.lst good) (some ((k : Int) + 1)) none = some (.lst (good.drop (k + 1)), true) := by
    show some (D.lst (cut good (some ((k : Int) + 1)) none), true) = _
    rw [cut_hi _ (by omega) (by omega), show ((k : Int) + 1).toNat = k + 1 by omega]
  have s3' : slEv (hU s1 [.dead] 0) (.lst W) (some (k : Int)) none = some (.lst (W.drop k), true) := by
    show some (D.lst (cut W (some (k : Int)) none), true) = _
    rw [cut_hi _ kk (by omega), Int.toNat_natCast]
  have a1 := bin_lst (hU s1 [.dead] 0) (good.take k) [at' W (k : Int)] (by rw [List.length_take, List.length_singleton]; omega)
  have a2 := bin_lst (hU s1 [.dead] 0) (good.take k ++ [at' W (k : Int)]) (good.drop (k + 1)) (by rw [List.length_append, List.length_take, List.length_singleton, List.length_drop]; omega)
  have a3 := bin_lst (hU s1 [.dead] 0) (good.take k) (W.drop k) (by rw [List.length_take, List.length_drop]; omega)
  have ne : ∀ (h : AH) (a : List Nat), cmpEv .ne h (.str a) (.str a) = some false := fun h a => by simp [cmpEv, res, D.plain, plK, deq]
  have fin : ssEv (evN K 58) b_law_1 (EW ns word good bad nm (some (.int k)) o19 o20 o21) (hU s [.dead] 0) = .nx (EW ns word good bad nm (some (.int k)) (some (.lst W)) (some (.lst (good.take k ++ [at' W (k : Int)] ++ good.drop (k + 1)))) o21) (hU s1 [.dead] 0) := by
    unfold EW EV at b1
    unfold EW EV b_law_1
    generalize hA2 : good.take k ++ [at' W (k : Int)] ++ good.drop (k + 1) = A2 at *
    generalize hA1 : good.take k ++ [at' W (k : Int)] = A1 at *
    generalize hA3 : good.take k ++ W.drop k = A3 at *
    generalize good.take k = G1 at *
    generalize good.drop (k + 1) = G2 at *
    generalize W.drop k = W2 at *
    generalize rws = R1 at *
    generalize bad.map D.lst = BL at *
    generalize nm.map D.str = NL at *
    generalize at' W (k : Int) = wk at *
    generalize at' nm (k : Int) = nk at *
    generalize hU s1 [.dead] 0 = h1 at *
    generalize hU s [.dead] 0 = h0 at *
    simp (implicitDefEqProofs := false) [hK, ↓b1, partEv, s1', xw, a1, s2', a2, t1, xn, ne, s3', a3, t2]
  rw [fin]
  exact ⟨⟨_, _, rfl⟩, s1, rfl⟩

theorem turn2 {K : Kn} (hK : K.call = callN pg 39) {ns : List Int} {word : D} {good : List D} {bad : List (List D)} {nm : List (List Nat)} (r : RowOk word good bad nm) (s : St) (o18 o19 o20 o21 : Option D) :
    Nx (ssEv (evN K 59) b_law_2 (EW ns word good bad nm o18 o19 o20 o21) (hU s [.dead] 0)) (fun env h' => (∃ o18 o19 o20, env = EW ns word good bad nm o18 o19 o20 o21) ∧ ∃ s', h' = hU s' [.dead] 0) := by
  have l4 := r.l4
  have t := r.ok s
  have ne : ∀ (h : AH) (a : List Nat), cmpEv .ne h (.str a) (.str a) = some false := fun h a => by simp [cmpEv, res, D.plain, plK, deq]
  have st : ssEv (evN K 59) (b_law_2.take 1) (EW ns word good bad nm o18 o19 o20 o21) (hU s [.dead] 0) = .nx (EW ns word good bad nm o18 o19 o20 o21) (hU s [.dead] 0) := by
    unfold EW EV b_law_2
    generalize rws = R1 at *
    generalize bad.map D.lst = BL at *
    generalize nm.map D.str = NL at *
    generalize hU s [.dead] 0 = h0 at *
    simp (implicitDefEqProofs := false) [hK, t, ne]
  have hd : b_law_2.drop 1 = [.for (.nm 18) (.rg1 (.bi .len [(.v 15)])) b_law_1] := rfl
  rw [ss_cut 1, st, t_nx, hd, eS1K]
  refine nx_then (P := fun env h' => (∃ o18 o19 o20, env = EW ns word good bad nm o18 o19 o20 o21) ∧ ∃ s', h' = hU s' [.dead] 0) ?_ fun env h' p => p
  have it : itEv (evN K 58) (.rg1 (.bi .len [(.v 15)])) (EW ns word good bad nm o18 o19 o20 o21) (hU s [.dead] 0) = .ok (rgL 0 (good.length : Int)) (hU s [.dead] 0) := by
    have : rgOk 0 (good.length : Int) = true := by simp [rgOk]; omega
    unfold EW EV
    generalize rws = R1 at *
    generalize bad.map D.lst = BL at *
    generalize nm.map D.str = NL at *
    generalize hU s [.dead] 0 = h0 at *
    simp (implicitDefEqProofs := false) [this]
  rw [yfor, it, o_ok]
  refine for_rg _ (fun i i0 i1 env h' => ?_) ⟨⟨o18, o19, o20, rfl⟩, s, rfl⟩
  rintro ⟨⟨o18, o19, o20, rfl⟩, s, rfl⟩
  obtain ⟨k, rfl⟩ : ∃ k : Nat, i = k := ⟨i.toNat, by omega⟩
  refine ⟨EW ns word good bad nm (some (.int k)) o19 o20 o21, ?_, ?_⟩
  · unfold EW EV
    simp (implicitDefEqProofs := false)
  · obtain ⟨env, h2, q, ⟨a19, a20, rfl⟩, s', rfl⟩ := (turn1 hK (ns := ns) r s k (by omega) o19 o20 o21).out
    rw [q]
    exact ⟨⟨_, _, _, rfl⟩, s', rfl⟩
theorem rws_ok : ∀ x ∈ rws, ∃ word good bad nm, x = .tup [word, .lst good, .lst (bad.map .lst), .lst (nm.map .str)] ∧ RowOk word good bad nm := by
  intro x hx
  simp only [rws, List.mem_cons, List.not_mem_nil, or_false] at hx
  rcases hx with rfl | rfl | rfl | rfl | rfl | rfl | rfl | rfl | rfl | rfl | rfl | rfl | rfl | rfl | rfl
  · exact ⟨_, _, _, _, rfl, row_fences⟩
  · exact ⟨_, _, _, _, rfl, row_widths⟩
  · exact ⟨_, _, _, _, rfl, row_parts⟩
  · exact ⟨_, _, _, _, rfl, row_are⟩
  · exact ⟨_, _, _, _, rfl, row_is⟩
  · exact ⟨_, _, _, _, rfl, row_width⟩
  · exact ⟨_, _, _, _, rfl, row_some⟩
  · exact ⟨_, _, _, _, rfl, row_weak⟩
  · exact ⟨_, _, _, _, rfl, row_tight⟩
  · exact ⟨_, _, _, _, rfl, row_first⟩
  · exact ⟨_, _, _, _, rfl, row_odd⟩
  · exact ⟨_, _, _, _, rfl, row_load⟩
  · exact ⟨_, _, _, _, rfl, row_room⟩
  · exact ⟨_, _, _, _, rfl, row_renamed⟩
  · exact ⟨_, _, _, _, rfl, row_together⟩
theorem holds1 (ns : List Int) (hn : ns.length ≤ 63) : Good (ssEv (evN KK 60) f_law.body ([some (.scr ns)] ++ List.replicate 26 none) ⟨[], 0⟩) := by
  have e0 := stream_ok 38 ns ⟨[], 0⟩ hn
  have r0 := reg_stream ns
  generalize (⟨ns, 0, 0, by decide, by decide⟩ : St) = s0 at r0
  have s1 := st1 ns s0
  have s2 := st2 ns
  have hK0 : KK.call = callN pg 39 := rfl
  generalize KK = K at *
  have st0 : ssEv (evN K 60) (f_law.body.take 1) ([some (.scr ns)] ++ List.replicate 26 none) ⟨[], 0⟩ = .nx [some (.scr ns), some (.ref 0), none, none, none, none, none, none, none, none, none, none, none, none, none, none, none, none, none, none, none, none, none, none, none, none, none] (hU s0 [] 0) := by
    simp (implicitDefEqProofs := false) [f_law, List.replicate, hK0, e0, r0]
  have hd : (f_law.body.drop 1).drop 19 = .for (.tp [(.nm 13), (.nm 15), (.nm 16), (.nm 17)]) (.sq (.v 12)) b_law_2 :: r_law_1 := rfl
  rw [ss_cut 1, st0, t_nx, ss_cut 19, s1, t_nx, hd, eS1K]
  refine good_nx (P := fun env h' => (∃ o13 o15 o16 o17 o18 o19 o20 o21, env = EV ns o13 o15 o16 o17 o18 o19 o20 o21) ∧ ∃ s', h' = hU s' [.dead] 0) ?_ ?_
  · have it : itEv (evN K 59) (.sq (.v 12)) (EV ns none none none none none none none none) (hU s0 [.dead] 0) = .ok rws (hU s0 [.dead] 0) := by
      unfold EV
      generalize rws = R1 at *
      generalize hU s0 [.dead] 0 = h0 at *
      simp (implicitDefEqProofs := false)
    rw [yfor, it, o_ok]
    refine for_nx _ (fun x hx env h' => ?_) ⟨⟨_, _, _, _, _, _, _, _, rfl⟩, s0, rfl⟩
    rintro ⟨⟨o13, o15, o16, o17, o18, o19, o20, o21, rfl⟩, s, rfl⟩
    obtain ⟨word, good, bad, nm, rfl, r⟩ := rws_ok x hx
    refine ⟨EW ns word good bad nm o18 o19 o20 o21, ?_, ?_⟩
    · unfold EW EV
      generalize rws = R1 at *
      generalize bad.map D.lst = BL at *
      generalize nm.map D.str = NL at *
      simp (implicitDefEqProofs := false)
    · obtain ⟨env, h2, q, ⟨a18, a19, a20, rfl⟩, s', rfl⟩ := (turn2 (K := K) hK0 (ns := ns) r s o18 o19 o20 o21).out
      rw [q]
      exact ⟨⟨_, _, _, _, _, _, _, _, rfl⟩, s', rfl⟩
  · rintro env h' ⟨⟨o13, o15, o16, o17, o18, o19, o20, o21, rfl⟩, s, rfl⟩
    have e := s2 s o13 o15 o16 o17 o18 o19 o20 o21
    exact ⟨_, e⟩
def depth : Nat := 40
theorem holds : ∀ ns : List Int, ns.length ≤ 63 → says pg depth lawF ns := by
  intro ns hn
  exact Good.says (P := pg) (k := 39) (f := i_law) (fn := f_law) rfl rfl (holds1 ns hn)
end k07
end Rw
end

section
set_option Elab.async false
set_option linter.all false
set_option maxRecDepth 100000
set_option maxHeartbeats 4000000
open PySem PySem.W PySem.Calls PyProof.Rows
theorem PySem.Challenge.cw_wishshapes_k07_refusals_of_nets_holds : PySem.Challenge.rw_wishshapes_k07_refusals_of_nets.Holds := by
  w_on; o_law
  refine HandSHeadRun.head_any (r := OpenLaw.row PySem.Challenge.rw_wishshapes_k07_refusals_of_nets) (q := view (OpenLaw.row PySem.Challenge.rw_wishshapes_k07_refusals_of_nets).prog [56]) (H := Rw.k07.hk) (ob := Rw.k07.ob) (M := 4000) (loose := Rw.k07.loose) (d := HandSHeadRun.topDef (OpenLaw.row PySem.Challenge.rw_wishshapes_k07_refusals_of_nets).prog 56) (kwd := []) Rw.k07.ob_eq
    (by kernel_rfl) (fun s => by kernel_rfl) Rw.k07.run (by kernel_rfl) (by kernel_rfl) (by kernel_rfl) (by rfl) (by first | assumption | decide +kernel) (by decide +kernel) ⟨rfl, rfl, rfl, rfl, rfl, by decide +kernel⟩ ?hw ?hc
  case hw => w_witness2
  case hc => exact Rw.law_walk (l := PySem.Challenge.rw_wishshapes_k07_refusals_of_nets) (n := 63) (k := Rw.k07.depth) (tx := Rw.k07.x_law) (P := Rw.k07.pn) (G := Rw.k07.pg) (i := Rw.k07.lawF) rfl (by decide) (by kernel_rfl) ⟨rfl, by decide, by decide⟩ Rw.k07.ck Rw.k07.kl Rw.k07.bnd Rw.k07.hik rfl rfl rfl rfl (by kernel_rfl) rfl Rw.k07.holds
end
