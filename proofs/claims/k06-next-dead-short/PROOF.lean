import PyProof.Rows.All
import PySem.Str
import Wide.All
import OpenK.AllK
import Wide.FinOn
import HandS.ForMost
import HandS.Flow
import HandS.Strs
import HandS.Deep
import HandS.TupAny
import HandS.IsInst
import HandS.SortInts
import HandS.Small
import HandS.WordsDict
import HandS.More
import HandS.SetFor
import PySem.Eval
import HandS.Zip
import KE.GoesMore
import HandS.Iter
import HandS.Walk
import HandS.Comp
import HandS.Codes
import HandS.Dict
import HandS.Conv
import HandS.Style
import HandS.Exc
import HandS.Words
import HandS.Defaults
import KE.KStateDown
import HandS.Head0
import HandS.Head1
import HandS.Head2
import HandS.HeadEnd
import HandS.HeadHook1
import HandS.HeadHook2
import HandS.HeadHook3
import HandS.HeadHook4
import PySem.Challenge.RW_villageboard_k06_next_dead_short
set_option Elab.async false
section partM1
set_option linter.all false
set_option maxRecDepth 100000
/-! M1: the little language Mp: values, objects, expressions, statements, what they do. Pure Lean; no model in it. -/
namespace Mp

/-- a value: immutable, or a place of the store -/
inductive PV where
  | non | bl (b : Bool) | int (i : Int) | str (s : List Nat) | tup (xs : List PV) | ref (l : Nat) | rol (ns : List Int)
  deriving Inhabited
/-- a dict's key -/
inductive PK where
  | kI (n : Int) | kS (x : List Nat)
  deriving DecidableEq, Inhabited
/-- an object of the store -/
inductive PO where
  | lst (xs : List PV) | dct (kvs : List (PK × PV)) | set (ns : List Int)
  deriving Inhabited
/-- what an expression gives: a value, or a new object that nobody holds yet -/
inductive EV where
  | val (v : PV) | tmp (o : PO)
  deriving Inhabited
abbrev Sto := List PO
abbrev Env := List (Option PV)
/-- an exception: its class's number, its arguments -/
structure PX where
  cls : Nat
  args : List PV
inductive R (α : Type) where
  | ok (a : α) (S : Sto) | exc (x : PX) (S : Sto) | err
def R.bind {α β : Type} (r : R α) (f : α → Sto → R β) : R β :=
  match r with
  | .ok a S => f a S
  | .exc x S => .exc x S
  | .err => .err
theorem R.bind_ok {α β : Type} (a : α) (S : Sto) (f : α → Sto → R β) : (R.ok a S).bind f = f a S := rfl
theorem R.bind_err {α β : Type} (f : α → Sto → R β) : (R.err : R α).bind f = .err := rfl
theorem R.bind_exc {α β : Type} (x : PX) (S : Sto) (f : α → Sto → R β) : (R.exc x S : R α).bind f = .exc x S := rfl
def R.opt {α : Type} (o : Option α) (S : Sto) : R α :=
  match o with
  | some a => .ok a S
  | none => .err
theorem R.opt_some {α : Type} (a : α) (S : Sto) : R.opt (some a) S = .ok a S := rfl
theorem R.opt_none {α : Type} (S : Sto) : R.opt (none : Option α) S = .err := rfl

/-! ### places within values -/
mutual
/-- no place from n on in it -/
def PV.bel (n : Nat) : PV → Bool
  | .ref l => decide (l < n)
  | .rol _ => decide (0 < n)
  | .tup xs => PV.belL n xs
  | _ => true
def PV.belL (n : Nat) : List PV → Bool
  | [] => true
  | x :: xs => PV.bel n x && PV.belL n xs
end
def PO.bel (n : Nat) : PO → Bool
  | .lst xs => PV.belL n xs
  | .dct kvs => PV.belL n (kvs.map (·.2))
  | .set _ => true
def stoBel (n : Nat) : Sto → Bool
  | [] => true
  | o :: S => o.bel n && stoBel n S
mutual
def PV.dep : PV → Nat
  | .tup xs => PV.depL xs + 1
  | _ => 0
def PV.depL : List PV → Nat
  | [] => 0
  | x :: xs => max (PV.dep x) (PV.depL xs)
end
mutual
/-- Python's == of values without places -/
def PV.eqv : PV → PV → Bool
  | .non, b => match b with
    | .non => true
    | _ => false
  | .bl x, b => match b with
    | .bl y => x == y
    | .int j => (if x then 1 else 0) == j
    | _ => false
  | .int i, b => match b with
    | .bl y => i == (if y then 1 else 0)
    | .int j => i == j
    | _ => false
  | .str x, b => match b with
    | .str y => x == y
    | _ => false
  | .tup xs, b => match b with
    | .tup ys => PV.eqvL xs ys
    | _ => false
  | .ref _, _ => false
  | .rol _, _ => false
def PV.eqvL : List PV → List PV → Bool
  | [], b => match b with
    | [] => true
    | _ => false
  | x :: xs, b => match b with
    | [] => false
    | y :: ys => PV.eqv x y && PV.eqvL xs ys
end

/-! ### sequences -/
def SZ : Nat := 16777216
/-- the place that an index means -/
def pyPos (n : Nat) (i : Int) : Option Nat := if 0 ≤ i then (if i < n then some i.toNat else none) else if -(n : Int) ≤ i then some (i + n).toNat else none
def pyIdx {α : Type} (xs : List α) (i : Int) : Option α := (pyPos xs.length i).bind fun j => xs[j]?
/-- the place of a slice's end -/
def pyEnd (n d : Nat) : Option Int → Nat
  | none => d
  | some v => if v < 0 then (v + (n : Int)).toNat else min v.toNat n
def pyCut {α : Type} (xs : List α) (lo hi : Option Int) : List α :=
  (xs.drop (pyEnd xs.length 0 lo)).take (pyEnd xs.length xs.length hi - pyEnd xs.length 0 lo)
def PK.of : PV → Option PK
  | .int i => some (.kI i)
  | .str x => some (.kS x)
  | _ => none
def PK.pv : PK → PV
  | .kI n => .int n
  | .kS x => .str x
def dGet (kvs : List (PK × PV)) (k : PK) : Option PV := (kvs.find? fun p => decide (p.1 = k)).map (·.2)
def dPut (kvs : List (PK × PV)) (k : PK) (v : PV) : List (PK × PV) :=
  if (kvs.any fun p => decide (p.1 = k)) = true then kvs.map fun p => if p.1 = k then (p.1, v) else p else kvs ++ [(k, v)]
def insI (i : Int) : List Int → List Int
  | [] => [i]
  | j :: r => if i ≤ j then i :: j :: r else j :: insI i r
def sortI : List Int → List Int
  | [] => []
  | i :: r => insI i (sortI r)
def allInts : List PV → Option (List Int)
  | [] => some []
  | .int i :: r => (allInts r).map (i :: ·)
  | _ :: _ => none
def dedupI : List Int → List Int
  | [] => []
  | i :: r => if i ∈ r then dedupI r else i :: dedupI r

/-- the items of a list -/
def itL (x : EV) (S : Sto) : Option (List PV) :=
  match x with
  | .val (.ref l) => match S[l]? with
    | some (.lst xs) => some xs
    | _ => none
  | .tmp (.lst xs) => some xs
  | _ => none
def itD (x : EV) (S : Sto) : Option (List (PK × PV)) :=
  match x with
  | .val (.ref l) => match S[l]? with
    | some (.dct kvs) => some kvs
    | _ => none
  | .tmp (.dct kvs) => some kvs
  | _ => none
def itS (x : EV) (S : Sto) : Option (List Int) :=
  match x with
  | .val (.ref l) => match S[l]? with
    | some (.set ns) => some ns
    | _ => none
  | .tmp (.set ns) => some ns
  | _ => none
/-- the items of a list or a tuple -/
def itT (x : EV) (S : Sto) : Option (List PV) :=
  match x with
  | .val (.tup xs) => some xs
  | .val (.rol ns) => some (ns.map .int)
  | x => itL x S
def chars (s : List Nat) : List PV := s.map fun c => .str [c]
/-- an object's truth by its size -/
def PO.tru : PO → Option Bool
  | .lst xs => some (!xs.isEmpty)
  | .dct kvs => some (!kvs.isEmpty)
  | .set _ => none
def tru (x : EV) (S : Sto) : Option Bool :=
  match x with
  | .val .non => some false
  | .val (.bl b) => some b
  | .val (.int i) => some (decide (i ≠ 0))
  | .val (.str s) => some (!s.isEmpty)
  | .val (.tup xs) => some (!xs.isEmpty)
  | .val (.ref l) => (S[l]?).bind PO.tru
  | .val (.rol ns) => some (!ns.isEmpty)
  | .tmp o => o.tru

/-! ### operators -/
inductive Bop where
  | add | sub | mul | fdiv | mod | pow | shl | shr
  deriving DecidableEq
inductive Cop where
  | eq | ne | lt | le | gt | ge | is | isn | in | nin
  deriving DecidableEq
inductive Ty where
  | int | bool | str | tuple | list | dict
  deriving DecidableEq
inductive Blt where
  | len | tuple | list | sorted | int | abs | min | max | sum | str | set
  deriving DecidableEq
inductive Mth where
  | append | pop | insert | index
  deriving DecidableEq

def inB (i : Int) : Bool := decide (-(2 ^ 64) < i) && decide (i < 2 ^ 64)
def binI (o : Bop) (i j : Int) : Option Int :=
  match o with
  | .add => some (i + j)
  | .sub => some (i - j)
  | .mul => if inB i || inB j then some (i * j) else none
  | .fdiv => if 0 < j ∧ j < 1073741824 then some (i / j) else none
  | .mod => if 0 < j then some (i % j) else none
  | .pow => if 0 ≤ j ∧ j ≤ 1000000 ∧ inB i = true then some (i ^ j.toNat) else none
  | .shl => if 0 ≤ j ∧ j ≤ 1000000 ∧ inB i = true then some (i * 2 ^ j.toNat) else none
  | .shr => if 0 ≤ j then some (i / 2 ^ j.toNat) else none
/-- (xs repeated) -/
def rep {α : Type} (k : Int) (xs : List α) : List α := (List.replicate k.toNat xs).flatten
def binE (o : Bop) (a b : EV) (S : Sto) : Option EV :=
  match a, b with
  | .val (.int i), .val (.int j) => (binI o i j).map fun k => .val (.int k)
  | .val (.str x), .val (.str y) => match o with
    | .add => if x.length + y.length ≤ SZ then some (.val (.str (x ++ y))) else none
    | _ => none
  | .val (.tup xs), .val (.tup ys) => match o with
    | .add => if xs.length + ys.length ≤ SZ then some (.val (.tup (xs ++ ys))) else none
    | _ => none
  | a, b => match o with
    | .add => match itL a S, itL b S with
      | some xs, some ys => if xs.length + ys.length ≤ SZ then some (.tmp (.lst (xs ++ ys))) else none
      | _, _ => none
    | .mul => match itL a S, b with
      | some xs, .val (.int k) => if -(2 ^ 63) ≤ k ∧ k < 2 ^ 63 ∧ xs.length * k.toNat ≤ SZ then some (.tmp (.lst (rep k xs))) else none
      | _, _ => none
    | _ => none
/-- what a value is without places: a list or not, its items or itself -/
def dat (x : EV) (S : Sto) : Option (Bool × PV) :=
  match x with
  | .tmp (.lst xs) => if PV.belL 0 xs then some (true, .tup xs) else none
  | .tmp _ => none
  | .val (.ref l) => match S[l]? with
    | some (.lst xs) => if PV.belL 0 xs then some (true, .tup xs) else none
    | _ => none
  | .val v => if v.bel 0 then some (false, v) else none
/-- == -/
def eqE (a b : EV) (S : Sto) : Option Bool :=
  match dat a S, dat b S with
  | some (k, x), some (k', y) => if x.dep ≤ 60 ∧ y.dep ≤ 60 then some (if k = k' then PV.eqv x y else false) else none
  | _, _ => none
/-- x in y -/
def inE (a b : EV) (S : Sto) : Option Bool :=
  match a with
  | .tmp _ => none
  | .val x =>
    match b with
    | .val (.str s) => match x with
      | .str [c] => some (decide (c ∈ s))
      | _ => none
    | b => match itT b S with
      | some ys => if x.bel 0 = true ∧ PV.belL 0 ys = true ∧ x.dep ≤ 60 ∧ PV.depL ys ≤ 59 then some (ys.any fun y => PV.eqv y x) else none
      | none => match itD b S, PK.of x with
        | some kvs, some k => some (dGet kvs k).isSome
        | _, _ => none
def isNon : EV → Option Bool
  | .val .non => some true
  | .val _ => some false
  | .tmp _ => some false
def cmpI (o : Cop) (i j : Int) : Option Bool :=
  match o with
  | .lt => some (decide (i < j))
  | .le => some (decide (i ≤ j))
  | .gt => some (decide (j < i))
  | .ge => some (decide (j ≤ i))
  | _ => none
def cmpE (o : Cop) (a b : EV) (S : Sto) : Option Bool :=
  match o with
  | .eq => eqE a b S
  | .ne => (eqE a b S).map not
  | .in => inE a b S
  | .nin => (inE a b S).map not
  | .is => match b with
    | .val .non => isNon a
    | _ => none
  | .isn => match b with
    | .val .non => (isNon a).map not
    | _ => none
  | o => match a, b with
    | .val (.int i), .val (.int j) => cmpI o i j
    | _, _ => none
/-- a[i] -/
def idxE (a i : EV) (S : Sto) : Option PV :=
  match i with
  | .val v =>
    match a with
    | .val (.str s) => match v with
      | .int i => (pyIdx s i).map fun c => .str [c]
      | _ => none
    | a => match itT a S with
      | some xs => match v with
        | .int i => pyIdx xs i
        | _ => none
      | none => match itD a S, PK.of v with
        | some kvs, some k => dGet kvs k
        | _, _ => none
  | _ => none
/-- a slice's end -/
def endE : Option EV → Option (Option Int)
  | none => some none
  | some (.val (.int i)) => some (some i)
  | _ => none
def slcE (a : EV) (lo hi : Option Int) (S : Sto) : Option EV :=
  match a with
  | .val (.tup xs) => some (.val (.tup (pyCut xs lo hi)))
  | .val (.str s) => none
  | a => match itL a S with
    | some xs => some (.tmp (.lst (pyCut xs lo hi)))
    | none => none
def isTy (x : EV) (S : Sto) (t : Ty) : Option Bool :=
  match x with
  | .val .non => some false
  | .val (.bl _) => some (t == .bool || t == .int)
  | .val (.int _) => some (t == .int)
  | .val (.str _) => some (t == .str)
  | .val (.tup _) => some (t == .tuple)
  | .val (.ref l) => match S[l]? with
    | some (.lst _) => some (t == .list)
    | some (.dct _) => some (t == .dict)
    | _ => none
  | .tmp (.lst _) => some (t == .list)
  | .tmp (.dct _) => some (t == .dict)
  | _ => none
def one (as : List EV) (f : EV → Option EV) : Option EV :=
  match as with
  | [a] => f a
  | _ => none
def two (as : List EV) (f : EV → EV → Option EV) : Option EV :=
  match as with
  | [a, b] => f a b
  | _ => none
theorem one_eq (a : EV) (f : EV → Option EV) : one [a] f = f a := rfl
theorem two_eq (a b : EV) (f : EV → EV → Option EV) : two [a, b] f = f a b := rfl
theorem one_some {as : List EV} {f : EV → Option EV} {v : EV} (e : one as f = some v) : ∃ a, as = [a] ∧ f a = some v := by
  unfold one at e
  split at e
  · exact ⟨_, rfl, e⟩
  · cases e
theorem two_some {as : List EV} {f : EV → EV → Option EV} {v : EV} (e : two as f = some v) : ∃ a b, as = [a, b] ∧ f a b = some v := by
  unfold two at e
  split at e
  · exact ⟨_, _, rfl, e⟩
  · cases e
def bLen (S : Sto) (a : EV) : Option EV :=
  match a with
  | .val (.str s) => some (.val (.int s.length))
  | a => match itT a S with
    | some xs => some (.val (.int xs.length))
    | none => (itD a S).map fun kvs => .val (.int kvs.length)
def bTuple (S : Sto) (a : EV) : Option EV :=
  match a with
  | .val (.tup xs) => some (.val (.tup xs))
  | a => (itL a S).map fun xs => .val (.tup xs)
def bList (S : Sto) (a : EV) : Option EV := (itT a S).map fun xs => .tmp (.lst xs)
/-- what sorted takes: ints of a list, a set, a dict's keys -/
def bSorted (S : Sto) (a : EV) : Option EV :=
  match itL a S with
  | some xs => (allInts xs).map fun ns => .tmp (.lst ((sortI ns).map .int))
  | none => match itS a S with
    | some ns => if ns.length < 64 then some (.tmp (.lst ((sortI ns).map .int))) else none
    | none => match itD a S with
      | some kvs => (allInts (kvs.map fun p => p.1.pv)).map fun ns => .tmp (.lst ((sortI ns).map .int))
      | none => none
def bSet (S : Sto) (a : EV) : Option EV :=
  match itL a S with
  | some xs => match allInts xs with
    | some ns => if ns.length < 60 then some (.tmp (.set (dedupI ns))) else none
    | none => none
  | none => none
def bInt (a : EV) : Option EV :=
  match a with
  | .val (.int i) => some (.val (.int i))
  | .val (.bl b) => some (.val (.int (if b then 1 else 0)))
  | _ => none
def bAbs (a : EV) : Option EV :=
  match a with
  | .val (.int i) => some (.val (.int i.natAbs))
  | _ => none
def bMin (a b : EV) : Option EV :=
  match a, b with
  | .val (.int i), .val (.int j) => some (.val (.int (min i j)))
  | _, _ => none
def bMax (a b : EV) : Option EV :=
  match a, b with
  | .val (.int i), .val (.int j) => some (.val (.int (max i j)))
  | _, _ => none
/-- the built-in functions -/
def bltE (b : Blt) (as : List EV) (S : Sto) : Option EV :=
  match b with
  | .len => one as (bLen S)
  | .tuple => one as (bTuple S)
  | .list => one as (bList S)
  | .sorted => one as (bSorted S)
  | .set => one as (bSet S)
  | .int => one as bInt
  | .abs => one as bAbs
  | .min => two as bMin
  | .max => two as bMax
  | .sum => none
  | .str => none

/-! ### writing -/
/-- what may not be written: places below bar, places that a loop walks -/
structure Grd where
  bar : Nat
  frz : List Nat
def Grd.ok (G : Grd) (l : Nat) : Bool := decide (G.bar ≤ l) && !G.frz.contains l
def put (G : Grd) (l : Nat) (o : PO) (S : Sto) : Option Sto := if G.ok l then some (S.set l o) else none
def mat (x : EV) (S : Sto) : R PV :=
  match x with
  | .val v => .ok v S
  | .tmp o => .ok (.ref S.length) (S ++ [o])
/-- xs.m(as): what it gives, the list behind it -/
def mthL (m : Mth) (xs : List PV) (as : List PV) : Option (PV × List PV) :=
  match m, as with
  | .append, [v] => if xs.length < SZ then some (.non, xs ++ [v]) else none
  | .pop, [] => match xs.getLast? with
    | some v => some (v, xs.dropLast)
    | none => none
  | .insert, [.int i, v] => if 0 ≤ i ∧ i < 2 ^ 63 ∧ xs.length < SZ then some (.non, xs.take i.toNat ++ [v] ++ xs.drop i.toNat) else none
  | _, _ => none
/-- the first place of an equal one -/
def idxOf (o : EV) (v : PV) (S : Sto) : Option Nat :=
  match itT o S with
  | some xs => if v.bel 0 = true ∧ PV.belL 0 xs = true ∧ v.dep ≤ 60 ∧ PV.depL xs ≤ 59 then xs.findIdx? fun y => PV.eqv y v else none
  | none => none
/-- is it a list (or else a tuple) -/
def isLst (x : EV) (S : Sto) : Option Bool :=
  match x with
  | .val (.tup _) => some false
  | x => (itL x S).map fun _ => true
def mthE (G : Grd) (m : Mth) (o : EV) (as : List PV) (S : Sto) : R EV :=
  match m with
  | .index => match as with
    | [v] => match idxOf o v S with
      | some i => .ok (.val (.int i)) S
      | none => .err
    | _ => .err
  | m => match o with
    | .val (.ref l) => match S[l]? with
      | some (.lst xs) => match mthL m xs as with
        | some (v, xs') => match put G l (.lst xs') S with
          | some S' => .ok (.val v) S'
          | none => .err
        | none => .err
      | _ => .err
    | _ => .err
/-- l.extend(a) -/
def extE (G : Grd) (o a : EV) (S : Sto) : R EV :=
  match o with
  | .val (.ref l) => match S[l]? with
    | some (.lst xs) => match itL a S with
      | some ys => if xs.length + ys.length ≤ SZ then (match put G l (.lst (xs ++ ys)) S with
        | some S' => .ok (.val .non) S'
        | none => .err) else .err
      | none => .err
    | _ => .err
  | _ => .err
/-- o[i] = v -/
def putE (G : Grd) (o i v : PV) (S : Sto) : Option Sto :=
  match o with
  | .ref l => match S[l]? with
    | some (.lst xs) => match i with
      | .int i => match pyPos xs.length i with
        | some j => put G l (.lst (xs.set j v)) S
        | none => none
      | _ => none
    | some (.dct kvs) => match PK.of i with
      | some k => if kvs.length < SZ then put G l (.dct (dPut kvs k v)) S else none
      | none => none
    | _ => none
  | _ => none

/-! ### expressions -/
/-- a target of names -/
inductive Tg where
  | var (i : Nat) | tup (ts : List Tg)
mutual
inductive CE where
  | bad
  | cst (v : PV)
  | var (i : Nat)
  | glb (g : Nat)
  | tup (es : List CE)
  | lst (es : List CE)
  | dct0
  | dct (es : List CE)
  | rngS (k : Bool) (a b : CE)
  | bin (o : Bop) (a b : CE)
  | neg (a : CE)
  | not (a : CE)
  | and (a b : CE)
  | or (a b : CE)
  | cmp (o : Cop) (a b : CE)
  | cmp2 (o o' : Cop) (a b c : CE)
  | ite (c a b : CE)
  | idx (a i : CE)
  | slc (a : CE) (lo hi : Option CE)
  | call (f : Nat) (as : List CE)
  | callK (f : Nat) (as ks : List CE) (perm : List Nat)
  | kget (d : Nat) (i : CE)
  | kin (neg : Bool) (d : Nat) (x : CE)
  | blt (b : Blt) (as : List CE)
  | mth (m : Mth) (o : CE) (as : List CE)
  | ext (o a : CE)
  | isi (e : CE) (t : Ty)
  | lc (elt : CE) (t : Tg) (it : CI) (ifs : List CE) (own : List Nat)
/-- what a for walks -/
inductive CI where
  | bad
  | exp (e : CE)
  | rng1 (b : CE)
  | rng2 (a b : CE)
  | rng3 (a b c : CE)
  | enum (e : CE)
  | zip (a b : CE)
end
inductive CS where
  | bad | pass | brk | cont
  | exp (e : CE)
  | ret (e : CE)
  | retN
  | asg (t : Tg) (e : CE)
  | asgS (o i e : CE)
  | aug (i : Nat) (o : Bop) (e : CE)
  | ife (c : CE) (a b : List CS)
  | whl (c : CE) (b : List CS)
  | frr (t : Tg) (it : CI) (b : List CS)

mutual
def asgT : Tg → PV → Env → Option Env
  | .var i, v, σ => if i < σ.length then some (σ.set i (some v)) else none
  | .tup ts, v, σ => match v with
    | .tup xs => asgTs ts xs σ
    | _ => none
def asgTs : List Tg → List PV → Env → Option Env
  | [], xs, σ => match xs with
    | [] => some σ
    | _ => none
  | t :: ts, xs, σ => match xs with
    | [] => none
    | x :: xs => match asgT t x σ with
      | some σ' => asgTs ts xs σ'
      | none => none
end
def wipeE (σ : Env) : List Nat → Env
  | [] => σ
  | v :: vs => (wipeE σ vs).set v none
/-- calls: guard, number of the def, arguments, store -/
abbrev FT := Grd → Nat → List PV → Sto → R EV
inductive Fl where
  | nx (σ : Env) | rt (v : EV) | bk (σ : Env) | ct (σ : Env)

/-- the items of a walk, and the place that is walked -/
structure Wk where
  items : List PV
  frz : List Nat
def wkE (x : EV) (S : Sto) : Option Wk :=
  match x with
  | .val (.tup xs) => some ⟨xs, []⟩
  | .val (.str s) => some ⟨chars s, []⟩
  | .val (.rol ns) => some ⟨ns.map .int, []⟩
  | .val (.ref l) => match S[l]? with
    | some (.lst xs) => some ⟨xs, [l]⟩
    | _ => none
  | .tmp (.lst xs) => some ⟨xs, []⟩
  | _ => none
/-- a tuple (true), a list -/
def seqW (x : EV) (S : Sto) : Option (Bool × Wk) :=
  match x with
  | .val (.tup xs) => some (true, ⟨xs, []⟩)
  | .val (.ref l) => match S[l]? with
    | some (.lst xs) => some (false, ⟨xs, [l]⟩)
    | _ => none
  | .val (.rol ns) => some (false, ⟨ns.map .int, []⟩)
  | .tmp (.lst xs) => some (false, ⟨xs, []⟩)
  | _ => none
def upI (lo : Int) (n : Nat) : List PV := (List.range n).map fun i => .int (lo + (i : Nat))
def rngW (lo hi : Int) : Option Wk := if -(2 ^ 62) ≤ lo ∧ lo < 2 ^ 62 ∧ -(2 ^ 62) ≤ hi ∧ hi < 2 ^ 62 ∧ (hi - lo).toNat ≤ SZ then some ⟨upI lo (hi - lo).toNat, []⟩ else none
/-- downwards by ones -/
def rngD (lo hi : Int) : Option Wk := if -(2 ^ 62) ≤ lo ∧ lo < 2 ^ 62 ∧ -(2 ^ 62) ≤ hi ∧ hi < 2 ^ 62 ∧ (lo - hi).toNat ≤ SZ then some ⟨(List.range (lo - hi).toNat).map fun i => .int (lo - (i : Nat)), []⟩ else none
def enumL (i : Nat) : List PV → List PV
  | [] => []
  | x :: xs => .tup [.int i, x] :: enumL (i + 1) xs
def zipL : List PV → List PV → List PV
  | x :: xs, y :: ys => .tup [x, y] :: zipL xs ys
  | _, _ => []
/-- one turn of a walk behind the other -/
def forF (G : Grd) (t : Tg) (b : Env → Sto → R Fl) : List PV → Env → Sto → R Fl
  | [], σ, S => .ok (.nx σ) S
  | x :: xs, σ, S => match asgT t x σ with
    | none => .err
    | some σ1 => (b σ1 S).bind fun f S1 => match f with
      | .nx σ2 => forF G t b xs σ2 S1
      | .ct σ2 => forF G t b xs σ2 S1
      | .bk σ2 => .ok (.nx σ2) S1
      | .rt v => .ok (.rt v) S1
def whlF (c : Env → Sto → R Bool) (b : Env → Sto → R Fl) : Nat → Env → Sto → R Fl
  | 0, _, _ => .err
  | n + 1, σ, S => (c σ S).bind fun k S1 => if k then (b σ S1).bind fun f S2 => match f with
      | .nx σ2 => whlF c b n σ2 S2
      | .ct σ2 => whlF c b n σ2 S2
      | .bk σ2 => .ok (.nx σ2) S2
      | .rt v => .ok (.rt v) S2
    else .ok (.nx σ) S1
/-- a comprehension's turns: b gives the element, if there is one -/
def lcF (b : PV → Sto → R (Option PV)) : List PV → Sto → R (List PV)
  | [], S => .ok [] S
  | x :: xs, S => (b x S).bind fun o S1 => (lcF b xs S1).bind fun r S2 => match o with
    | some v => .ok (v :: r) S2
    | none => .ok r S2
def FUEL : Nat := 1000000000
def permL {α : Type} (as : List α) (perm : List Nat) : List α := perm.filterMap fun i => as[i]?
/-- a written dict of texts -/
abbrev KD := List (List Nat × PV)
def kdGet (d : KD) (x : EV) : Option PV :=
  match x with
  | .val (.str s) => (d.find? fun p => decide (p.1 = s)).map (·.2)
  | _ => none

/-- a display's keys and values -/
def pairUp : List PV → Option (List (PK × PV))
  | [] => some []
  | [_] => none
  | k :: v :: r => match PK.of k, pairUp r with
    | some q, some ps => some ((q, v) :: ps)
    | _, _ => none
section
variable (gl : List PV) (kd : List KD) (F : FT)
mutual
def evE (G : Grd) : CE → Env → Sto → R EV
  | .bad, _, _ => .err
  | .cst v, _, S => .ok (.val v) S
  | .var i, σ, S => match σ[i]? with
    | some (some v) => .ok (.val v) S
    | _ => .err
  | .glb g, _, S => match gl[g]? with
    | some v => .ok (.val v) S
    | none => .err
  | .tup es, σ, S => (evL G es σ S).bind fun vs S1 => if vs.length ≤ SZ then .ok (.val (.tup vs)) S1 else .err
  | .lst es, σ, S => (evL G es σ S).bind fun vs S1 => if vs.length ≤ SZ then .ok (.tmp (.lst vs)) S1 else .err
  | .dct0, _, S => .ok (.tmp (.dct [])) S
  | .dct es, σ, S => (evL G es σ S).bind fun vs S1 => match pairUp vs with
    | some ps => if ps.length ≤ 15 then .ok (.tmp (.dct (ps.foldl (fun acc p => dPut acc p.1 p.2) []))) S1 else .err
    | none => .err
  | .rngS k a b, σ, S => (evE G a σ S).bind fun x S1 => (evE G b σ S1).bind fun y S2 => match x, y with
    | .val (.int i), .val (.int j) => match rngW i j with
      | some w => .ok (if k then .val (.tup w.items) else .tmp (.lst w.items)) S2
      | none => .err
    | _, _ => .err
  | .bin o a b, σ, S => (evE G a σ S).bind fun x S1 => (evE G b σ S1).bind fun y S2 => R.opt (binE o x y S2) S2
  | .neg a, σ, S => (evE G a σ S).bind fun x S1 => match x with
    | .val (.int i) => .ok (.val (.int (-i))) S1
    | _ => .err
  | .not a, σ, S => (evE G a σ S).bind fun x S1 => match tru x S1 with
    | some b => .ok (.val (.bl (!b))) S1
    | none => .err
  | .and a b, σ, S => (evE G a σ S).bind fun x S1 => match tru x S1 with
    | some k => if k then evE G b σ S1 else .ok x S1
    | none => .err
  | .or a b, σ, S => (evE G a σ S).bind fun x S1 => match tru x S1 with
    | some k => if k then .ok x S1 else evE G b σ S1
    | none => .err
  | .cmp o a b, σ, S => (evE G a σ S).bind fun x S1 => (evE G b σ S1).bind fun y S2 => match cmpE o x y S2 with
    | some k => .ok (.val (.bl k)) S2
    | none => .err
  | .cmp2 o o' a b c, σ, S => (evE G a σ S).bind fun x S1 => (evE G b σ S1).bind fun y S2 => match cmpE o x y S2 with
    | some k => if k then (evE G c σ S2).bind fun z S3 => (match cmpE o' y z S3 with
        | some k' => .ok (.val (.bl k')) S3
        | none => .err) else .ok (.val (.bl false)) S2
    | none => .err
  | .ite c a b, σ, S => (evE G c σ S).bind fun x S1 => match tru x S1 with
    | some k => if k then evE G a σ S1 else evE G b σ S1
    | none => .err
  | .idx a i, σ, S => (evE G a σ S).bind fun x S1 => (evE G i σ S1).bind fun y S2 => match idxE x y S2 with
    | some v => .ok (.val v) S2
    | none => .err
  | .slc a lo hi, σ, S => (evE G a σ S).bind fun x S1 => (evO G lo σ S1).bind fun l S2 => (evO G hi σ S2).bind fun h S3 => R.opt (slcE x l h S3) S3
  | .call f as, σ, S => (evL G as σ S).bind fun vs S1 => F G f vs S1
  | .callK f as ks perm, σ, S => (evL G as σ S).bind fun vs S1 => (evL G ks σ S1).bind fun ws S2 => F G f (permL (vs ++ ws) perm) S2
  | .kget d i, σ, S => (evE G i σ S).bind fun x S1 => match (kd[d]?).bind fun l => kdGet l x with
    | some v => .ok (.val v) S1
    | none => .err
  | .kin neg d x, σ, S => (evE G x σ S).bind fun x S1 => match (kd[d]?).bind fun l => kdGet l x with
    | some _ => .ok (.val (.bl (!neg))) S1
    | none => .err
  | .blt b as, σ, S => (evB G as σ S).bind fun vs S1 => R.opt (bltE b vs S1) S1
  | .mth m o as, σ, S => (evE G o σ S).bind fun x S1 => match isLst x S1 with
    | some _ => (evL G as σ S1).bind fun vs S2 => mthE G m x vs S2
    | none => .err
  | .ext o a, σ, S => (evE G o σ S).bind fun x S1 => match isLst x S1 with
    | some _ => (evE G a σ S1).bind fun y S2 => extE G x y S2
    | none => .err
  | .isi e t, σ, S => (evE G e σ S).bind fun x S1 => match isTy x S1 t with
    | some b => .ok (.val (.bl b)) S1
    | none => .err
  | .lc elt t it ifs own, σ, S => (evI G it σ S).bind fun w S1 =>
      (lcF (fun x S2 => match asgT t x (wipeE σ own) with
        | none => .err
        | some σ1 => (evT { G with frz := w.frz ++ G.frz } ifs σ1 S2).bind fun k S3 => if k then ((evE { G with frz := w.frz ++ G.frz } elt σ1 S3).bind mat).bind fun v S4 => .ok (some v) S4 else .ok none S3) w.items S1).bind fun vs S2 => if vs.length ≤ SZ then .ok (.tmp (.lst vs)) S2 else .err
/-- values, from the left -/
def evL (G : Grd) : List CE → Env → Sto → R (List PV)
  | [], _, S => .ok [] S
  | e :: es, σ, S => ((evE G e σ S).bind mat).bind fun v S1 => (evL G es σ S1).bind fun vs S2 => .ok (v :: vs) S2
/-- what a built-in takes -/
def evB (G : Grd) : List CE → Env → Sto → R (List EV)
  | [], _, S => .ok [] S
  | e :: es, σ, S => (evE G e σ S).bind fun v S1 => (evB G es σ S1).bind fun vs S2 => .ok (v :: vs) S2
def evO (G : Grd) : Option CE → Env → Sto → R (Option Int)
  | none, _, S => .ok none S
  | some e, σ, S => (evE G e σ S).bind fun x S1 => R.opt (endE (some x)) S1
/-- tests, one behind the other -/
def evT (G : Grd) : List CE → Env → Sto → R Bool
  | [], _, S => .ok true S
  | e :: es, σ, S => (evE G e σ S).bind fun x S1 => match tru x S1 with
    | some k => if k then evT G es σ S1 else .ok false S1
    | none => .err
def evI (G : Grd) : CI → Env → Sto → R Wk
  | .bad, _, _ => .err
  | .exp e, σ, S => (evE G e σ S).bind fun x S1 => R.opt (wkE x S1) S1
  | .rng1 b, σ, S => (evE G b σ S).bind fun y S1 => match y with
    | .val (.int j) => R.opt (rngW 0 j) S1
    | _ => .err
  | .rng2 a b, σ, S => (evE G a σ S).bind fun x S1 => (evE G b σ S1).bind fun y S2 => match x, y with
    | .val (.int i), .val (.int j) => R.opt (rngW i j) S2
    | _, _ => .err
  | .rng3 a b c, σ, S => (evE G a σ S).bind fun x S1 => (evE G b σ S1).bind fun y S2 => (evE G c σ S2).bind fun z S3 => match x, y, z with
    | .val (.int i), .val (.int j), .val (.int k) => if k = -1 then R.opt (rngD i j) S3 else .err
    | _, _, _ => .err
  | .enum e, σ, S => (evE G e σ S).bind fun x S1 => match seqW x S1 with
    | some (_, w) => .ok ⟨enumL 0 w.items, w.frz⟩ S1
    | none => .err
  | .zip a b, σ, S => (evE G a σ S).bind fun x S1 => (evE G b σ S1).bind fun y S2 => match seqW x S2, seqW y S2 with
    | some (k, w), some (k', w') => if k = k' then .ok ⟨zipL w.items w'.items, w.frz ++ w'.frz⟩ S2 else .err
    | _, _ => .err
end
/-- a value -/
def evP (G : Grd) (e : CE) (σ : Env) (S : Sto) : R PV := (evE gl kd F G e σ S).bind mat
/-- a test -/
def tst (G : Grd) (c : CE) (σ : Env) (S : Sto) : R Bool :=
  (evE gl kd F G c σ S).bind fun x S1 => R.opt (tru x S1) S1
mutual
def exS (G : Grd) : CS → Env → Sto → R Fl
  | .bad, _, _ => .err
  | .pass, σ, S => .ok (.nx σ) S
  | .brk, σ, S => .ok (.bk σ) S
  | .cont, σ, S => .ok (.ct σ) S
  | .exp e, σ, S => (evE gl kd F G e σ S).bind fun _ S1 => .ok (.nx σ) S1
  | .ret e, σ, S => (evE gl kd F G e σ S).bind fun x S1 => .ok (.rt x) S1
  | .retN, _, S => .ok (.rt (.val .non)) S
  | .asg t e, σ, S => (evP gl kd F G e σ S).bind fun v S1 => match asgT t v σ with
    | some σ1 => .ok (.nx σ1) S1
    | none => .err
  | .asgS o i e, σ, S => (evP gl kd F G e σ S).bind fun v S1 => (evP gl kd F G o σ S1).bind fun x S2 => (evP gl kd F G i σ S2).bind fun y S3 => match putE G x y v S3 with
    | some S4 => .ok (.nx σ) S4
    | none => .err
  | .aug i o e, σ, S => match σ[i]? with
    | some (some (.int a)) => (evE gl kd F G e σ S).bind fun y S1 => match y with
      | .val (.int b) => (match o with
        | .add => .ok (.nx (σ.set i (some (.int (a + b))))) S1
        | .sub => .ok (.nx (σ.set i (some (.int (a - b))))) S1
        | _ => .err)
      | _ => .err
    | _ => .err
  | .ife c a b, σ, S => (tst gl kd F G c σ S).bind fun k S1 => if k then exL G a σ S1 else exL G b σ S1
  | .whl c b, σ, S => whlF (fun σ S => tst gl kd F G c σ S) (fun σ S => exL G b σ S) FUEL σ S
  | .frr t it b, σ, S => (evI gl kd F G it σ S).bind fun w S1 => forF G t (fun σ S => exL { G with frz := w.frz ++ G.frz } b σ S) w.items σ S1
def exL (G : Grd) : List CS → Env → Sto → R Fl
  | [], σ, S => .ok (.nx σ) S
  | s :: r, σ, S => (exS G s σ S).bind fun f S1 => match f with
    | .nx σ1 => exL G r σ1 S1
    | f => .ok f S1
end
end

/-! ### defs -/
structure Def where
  /-- parameters, slots -/
  np : Nat
  ns : Nat
  /-- 0: it takes and gives values without places, and runs in a store of its own; 1: it may write its caller's, and leaves nothing of its own there; 2: as it comes; 3: it writes nothing of its caller's -/
  md : Nat
  body : List CS
structure Pg where
  gl : List PV
  kd : List KD
  ds : List Def
def startE (n : Nat) (vs : List PV) : Env := vs.map some ++ List.replicate (n - vs.length) none
/-- an object that holds nothing from n on, with nobody else holding it -/
def leave (n : Nat) (v : EV) (T S' : Sto) : R EV :=
  match v with
  | .val w => if w.bel n then .ok v T else match w with
    | .ref l => match S'[l]? with
      | some o => if o.bel n then .ok (.tmp o) T else .err
      | none => .err
    | _ => .err
  | .tmp o => if o.bel n then .ok v T else .err
def retE (md n : Nat) (v : EV) (S S' : Sto) : R EV :=
  match md with
  | 3 => leave n v S S'
  | 1 => if stoBel n (S'.take n) then leave n v (S'.take n) S' else .err
  | _ => .ok v S'
def enter (gl : List PV) (kd : List KD) (F : FT) (G : Grd) (d : Def) (vs : List PV) (S : Sto) : R EV :=
  if vs.length = d.np then
    if d.md = 0 then
      if PV.belL 0 vs then
        match exL gl kd F { bar := 0, frz := [] } d.body (startE d.ns vs) [] with
        | .ok (.rt v) S' => leave 0 v S S'
        | .ok (.nx _) S' => leave 0 (.val .non) S S'
        | .ok _ _ => .err
        | .exc x S' => if PV.belL 0 x.args then .exc x S else .err
        | .err => .err
      else .err
    else
      match exL gl kd F (if d.md = 3 then { bar := S.length, frz := [] } else G) d.body (startE d.ns vs) S with
      | .ok (.rt v) S' => retE d.md S.length v S S'
      | .ok (.nx _) S' => retE d.md S.length (.val .non) S S'
      | .ok _ _ => .err
      | .exc x S' => if PV.belL S.length x.args then .exc x (if d.md = 3 then S else S') else .err
      | .err => .err
  else .err
def callF (P : Pg) : Nat → FT
  | 0 => fun _ _ _ _ => .err
  | k + 1 => fun G f vs S => match P.ds[f]? with
    | some d => enter P.gl P.kd (callF P k) G d vs S
    | none => .err
end Mp
end partM1

section partM2
set_option Elab.async false
set_option linter.all false
set_option maxRecDepth 100000
/-! M2: how Mp's values and stores lie in HandS's abstract heap; what stays. -/
namespace Mp
open PySem PySem.Spec PyProof.Rows L2

abbrev MP := Nat → Option Addr
/-- a text as the model has them -/
def StrP (s : List Nat) : Prop := (∀ c ∈ s, c < 1114112) ∧ s.length ≤ SZ
/-- a tuple without a dict of its own -/
def TupA (K : PySem.W.Frag) (H : Hp) (a : Addr) (vs : List V) : Prop :=
  (∃ o : Obj, H a = some (.frz o (.tup vs)) ∧ o.dict = none) ∨
    ∃ (o : Obj) (its : Array Value) (n : Nat), K.lookup a = some o ∧ o.cls = .type "tuple" ∧ o.dict = none ∧ o.data = .seq its n ∧ its.size ≤ sizeLine ∧ Vals vs its.toList
theorem TupA.sq {K : PySem.W.Frag} {H : Hp} {a : Addr} {vs : List V} (h : TupA K H a vs) : SqT K H a vs := by
  rcases h with ⟨o, h, _⟩ | ⟨o, its, n, h1, h2, _, h4, h5, h6⟩
  · exact .inl (.inr ⟨o, h⟩)
  · exact .inr ⟨o, its, n, h1, h2, h4, h5, h6⟩
/-- a list that nobody writes -/
def SqR (K : PySem.W.Frag) (H : Hp) (a : Addr) (vs : List V) : Prop :=
  (∃ o : Obj, H a = some (.frz o (.lst vs))) ∨
    ∃ (o : Obj) (its : Array Value) (n : Nat), K.lookup a = some o ∧ o.cls = .type "list" ∧ o.dict = none ∧ o.data = .seq its n ∧ its.size ≤ sizeLine ∧ Vals vs its.toList
theorem SqR.sq {K : PySem.W.Frag} {H : Hp} {a : Addr} {vs : List V} (h : SqR K H a vs) : SqL K H a vs := by
  rcases h with ⟨o, h⟩ | h
  · exact .inl (.inr ⟨o, h⟩)
  · exact .inr h
mutual
inductive Rv (K : PySem.W.Frag) (m : MP) (H : Hp) : PV → V → Prop
  | non : Rv K m H .non .non
  | bl (b : Bool) : Rv K m H (.bl b) (.bl b)
  | int (i : Int) : Rv K m H (.int i) (.int i)
  | str (s : List Nat) (h : StrP s) : Rv K m H (.str s) (.str ⟨s.toArray⟩)
  | tup {xs : List PV} {a : Addr} {vs : List V} : TupA K H a vs → RvL K m H xs vs → Rv K m H (.tup xs) (.ref a)
  | ref {l : Nat} {a : Addr} : m l = some a → Rv K m H (.ref l) (.ref a)
  | rol {ns : List Int} {a : Addr} : SqR K H a (ns.map V.int) → Rv K m H (.rol ns) (.ref a)
inductive RvL (K : PySem.W.Frag) (m : MP) (H : Hp) : List PV → List V → Prop
  | nil : RvL K m H [] []
  | cons {x : PV} {v : V} {xs : List PV} {vs : List V} : Rv K m H x v → RvL K m H xs vs → RvL K m H (x :: xs) (v :: vs)
end
def kRel : PK → Key → Prop
  | .kI n, k => k = Sum.inl n
  | .kS x, k => k = Sum.inr ⟨x.toArray⟩ ∧ StrP x
inductive RkL (K : PySem.W.Frag) (m : MP) (H : Hp) : List (PK × PV) → List (Key × V) → Prop
  | nil : RkL K m H [] []
  | cons {k : PK} {x : PV} {q : Key} {v : V} {xs : List (PK × PV)} {vs : List (Key × V)} : kRel k q → Rv K m H x v → RkL K m H xs vs → RkL K m H ((k, x) :: xs) ((q, v) :: vs)
/-- an object of the store stands at a -/
def Ro (K : PySem.W.Frag) (w : World) (m : MP) (H : Hp) (o : PO) (a : Addr) : Prop :=
  match o with
  | .lst xs => ∃ vs, H a = some (.lst vs) ∧ RvL K m H xs vs
  | .dct kvs => ∃ ws, H a = some (.dK ws) ∧ RkL K m H kvs ws
  | .set ns => H a = some (SetO w a (fun j => decide (j ∈ ns)) ns.length) ∧ ns.Nodup
structure RS (K : PySem.W.Frag) (w : World) (m : MP) (H : Hp) (S : Sto) : Prop where
  obj : ∀ (l : Nat) (o : PO), S[l]? = some o → ∃ a, m l = some a ∧ Ro K w m H o a
  inj : ∀ l l' a, m l = some a → m l' = some a → l = l'
  dom : ∀ l a, m l = some a → l < S.length
/-- behind something: what nobody of the store stands at is as it was, what may not be written too -/
structure Fr (G : Grd) (m : MP) (H : Hp) (m' : MP) (H' : Hp) : Prop where
  le : ∀ l a, m l = some a → m' l = some a
  un : ∀ a o, H a = some o → (∀ l, m l ≠ some a) → H' a = some o ∧ ∀ l, m' l ≠ some a
  pr : ∀ l a, m l = some a → G.ok l = false → H' a = H a
def RelE (K : PySem.W.Frag) (w : World) (m : MP) (H : Hp) (x : EV) (V' : V) : Prop :=
  match x with
  | .val v => Rv K m H v V'
  | .tmp o => ∃ a, V' = .ref a ∧ Ro K w m H o a ∧ ∀ l, m l ≠ some a
structure REnv (K : PySem.W.Frag) (m : MP) (H : Hp) (σ : Env) (τ : L2.St) : Prop where
  len : τ.length = σ.length
  get : ∀ (i : Nat) (v : PV), σ[i]? = some (some v) → ∃ V', τ[i]? = some (some V') ∧ Rv K m H v V'

section
variable {K : PySem.W.Frag} {w : World} {m m' m'' : MP} {H H' H'' : Hp} {S S' : Sto} {G : Grd} {x : PV} {v : V} {xs ys : List PV} {vs us : List V} {a : Addr} {o : PO} {σ : Env} {τ : L2.St}

theorem RvL.length : ∀ {xs : List PV} {vs : List V}, RvL K m H xs vs → xs.length = vs.length
  | _, _, .nil => rfl
  | _, _, .cons _ t => congrArg (· + 1) (RvL.length t)
theorem RvL.get : ∀ {xs : List PV} {vs : List V} {i : Nat} {x : PV}, RvL K m H xs vs → xs[i]? = some x → ∃ v, vs[i]? = some v ∧ Rv K m H x v
  | _, _, _, _, .nil, e => by simp at e
  | _, _, 0, _, .cons r _, e => by simp at e; subst e; exact ⟨_, rfl, r⟩
  | _, _, i + 1, x, .cons _ t, e => by
    obtain ⟨v, h1, h2⟩ := RvL.get (i := i) (x := x) t (by simpa using e)
    exact ⟨v, by simpa using h1, h2⟩
theorem RvL.back : ∀ {xs : List PV} {vs : List V} {i : Nat} {v : V}, RvL K m H xs vs → vs[i]? = some v → ∃ x, xs[i]? = some x ∧ Rv K m H x v
  | _, _, _, _, .nil, e => by simp at e
  | _, _, 0, _, .cons r _, e => by simp at e; subst e; exact ⟨_, rfl, r⟩
  | _, _, i + 1, x, .cons _ t, e => by
    obtain ⟨v, h1, h2⟩ := RvL.back (i := i) (v := x) t (by simpa using e)
    exact ⟨v, by simpa using h1, h2⟩
theorem RvL.append : ∀ {xs ys : List PV} {vs us : List V}, RvL K m H xs vs → RvL K m H ys us → RvL K m H (xs ++ ys) (vs ++ us)
  | _, _, _, _, .nil, s => s
  | _, _, _, _, .cons r t, s => .cons r (RvL.append t s)
theorem RvL.take : ∀ {xs : List PV} {vs : List V} (n : Nat), RvL K m H xs vs → RvL K m H (xs.take n) (vs.take n)
  | _, _, 0, _ => .nil
  | _, _, _ + 1, .nil => .nil
  | _, _, n + 1, .cons r t => .cons r (RvL.take n t)
theorem RvL.drop : ∀ {xs : List PV} {vs : List V} (n : Nat), RvL K m H xs vs → RvL K m H (xs.drop n) (vs.drop n)
  | _, _, 0, r => r
  | _, _, _ + 1, .nil => .nil
  | _, _, n + 1, .cons _ t => RvL.drop n t
theorem RvL.set {x : PV} {v : V} (r : Rv K m H x v) : ∀ {xs : List PV} {vs : List V} (i : Nat), RvL K m H xs vs → RvL K m H (xs.set i x) (vs.set i v)
  | _, _, _, .nil => .nil
  | _, _, 0, .cons _ t => .cons r t
  | _, _, i + 1, .cons q t => .cons q (RvL.set r i t)

/-! #### what stays: Same (nothing that was tracked changes) -/
theorem SqT.same {a : Addr} {xs : List V} (e : Same H H') (h : SqT K H a xs) : SqT K H' a xs := by
  rcases h with (h | ⟨o, h⟩) | h
  · exact .inl (.inl (e _ _ h))
  · exact .inl (.inr ⟨o, e _ _ h⟩)
  · exact .inr h
theorem TupA.same {a : Addr} {xs : List V} (e : Same H H') (h : TupA K H a xs) : TupA K H' a xs := by
  rcases h with ⟨o, h, d⟩ | h
  · exact .inl ⟨o, e _ _ h, d⟩
  · exact .inr h
theorem SqR.same {a : Addr} {xs : List V} (e : Same H H') (h : SqR K H a xs) : SqR K H' a xs := by
  rcases h with ⟨o, h⟩ | h
  · exact .inl ⟨o, e _ _ h⟩
  · exact .inr h
mutual
theorem Rv.same (e : Same H H') : ∀ {x : PV} {v : V}, Rv K m H x v → Rv K m H' x v
  | _, _, .non => .non
  | _, _, .bl b => .bl b
  | _, _, .int i => .int i
  | _, _, .str s h => .str s h
  | _, _, .tup h r => .tup (TupA.same e h) (RvL.same e r)
  | _, _, .ref h => .ref h
  | _, _, .rol h => .rol (SqR.same e h)
theorem RvL.same (e : Same H H') : ∀ {xs : List PV} {vs : List V}, RvL K m H xs vs → RvL K m H' xs vs
  | _, _, .nil => .nil
  | _, _, .cons r t => .cons (Rv.same e r) (RvL.same e t)
end
theorem RkL.same (e : Same H H') : ∀ {xs : List (PK × PV)} {vs : List (Key × V)}, RkL K m H xs vs → RkL K m H' xs vs
  | _, _, .nil => .nil
  | _, _, .cons k r t => .cons k (Rv.same e r) (RkL.same e t)
theorem Ro.same (e : Same H H') (h : Ro K w m H o a) : Ro K w m H' o a := by
  cases o with
  | lst xs => obtain ⟨vs, h1, h2⟩ := h; exact ⟨vs, e _ _ h1, RvL.same e h2⟩
  | dct kvs => obtain ⟨vs, h1, h2⟩ := h; exact ⟨vs, e _ _ h1, RkL.same e h2⟩
  | set ns => exact ⟨e _ _ h.1, h.2⟩
theorem RS.same (e : Same H H') (h : RS K w m H S) : RS K w m H' S :=
  ⟨fun l o q => by obtain ⟨a, h1, h2⟩ := h.obj l o q; exact ⟨a, h1, Ro.same e h2⟩, h.inj, h.dom⟩
theorem RelE.same {y : EV} (e : Same H H') (h : RelE K w m H y v) : RelE K w m H' y v := by
  cases y with
  | val x => exact Rv.same e h
  | tmp o => obtain ⟨a, h1, h2, h3⟩ := h; exact ⟨a, h1, Ro.same e h2, h3⟩
theorem REnv.same (e : Same H H') (h : REnv K m H σ τ) : REnv K m H' σ τ :=
  ⟨h.len, fun i v q => by obtain ⟨V', h1, h2⟩ := h.get i v q; exact ⟨V', h1, Rv.same e h2⟩⟩
/-- an object of the store is tracked, and is no tuple -/
theorem Ro.tracked (h : Ro K w m H o a) : ∃ ho, H a = some ho := by
  cases o with
  | lst xs => obtain ⟨vs, h1, _⟩ := h; exact ⟨_, h1⟩
  | dct kvs => obtain ⟨vs, h1, _⟩ := h; exact ⟨_, h1⟩
  | set ns => exact ⟨_, h.1⟩
theorem RS.here (h : RS K w m H S) {l : Nat} {a : Addr} (e : m l = some a) : ∃ o, S[l]? = some o ∧ Ro K w m H o a := by
  have hl := h.dom l a e
  obtain ⟨a', h1, h2⟩ := h.obj l S[l] (List.getElem?_eq_getElem hl)
  rw [e] at h1
  cases h1
  exact ⟨_, List.getElem?_eq_getElem hl, h2⟩
theorem RS.free (h : RS K w m H S) (n : H a = none) : ∀ l, m l ≠ some a := fun l e => by
  obtain ⟨o, _, r⟩ := h.here e
  obtain ⟨ho, q⟩ := r.tracked
  rw [n] at q
  cases q
theorem RS.next (h : RS K w m H S) : m S.length = none := by
  cases e : m S.length with
  | none => rfl
  | some a => exact absurd (h.dom _ _ e) (Nat.lt_irrefl _)
theorem Fr.refl : Fr G m H m H := ⟨fun _ _ h => h, fun _ _ h n => ⟨h, n⟩, fun _ _ _ _ => rfl⟩
theorem Fr.trans (f : Fr G m H m' H') (g : Fr G m' H' m'' H'') : Fr G m H m'' H'' :=
  ⟨fun l a h => g.le l a (f.le l a h), fun a o h n => by obtain ⟨h1, n1⟩ := f.un a o h n; exact g.un a o h1 n1,
   fun l a h k => (g.pr l a (f.le l a h) k).trans (f.pr l a h k)⟩
theorem Fr.of_same (e : Same H H') (rs : RS K w m H S) : Fr G m H m H' := ⟨fun _ _ h => h, fun a o h n => ⟨e a o h, n⟩, fun l a h _ => by
  obtain ⟨o, _, r⟩ := rs.here h
  obtain ⟨ho, q⟩ := r.tracked
  rw [q, e _ _ q]⟩
theorem SqT.fr {a : Addr} {xs : List V} (f : Fr G m H m' H') (rs : RS K w m H S) (h : SqT K H a xs) : SqT K H' a xs := by
  have ne : ∀ (b : Addr) (T : Int → Bool) (n : Nat) (u : HO), H a = some u → (∀ φ, u ≠ .ext φ) → H a ≠ some (SetO w b T n) := fun b T n u q nu z => by
    rw [q] at z
    exact nu _ (Option.some.inj z)
  have no : ∀ {u : HO}, H a = some u → (∀ vs, u ≠ .lst vs) → (∀ ws, u ≠ .dK ws) → (∀ φ, u ≠ .ext φ) → H' a = some u := fun {u} q n1 n2 n3 => by
    refine (f.un a u q fun l e => ?_).1
    obtain ⟨o, _, r⟩ := rs.here e
    cases o with
    | lst xs => obtain ⟨vs, h1, _⟩ := r; rw [q] at h1; exact n1 vs (Option.some.inj h1)
    | dct kvs => obtain ⟨vs, h1, _⟩ := r; rw [q] at h1; exact n2 vs (Option.some.inj h1)
    | set ns => exact ne _ _ _ u q n3 r.1
  rcases h with (h | ⟨o, h⟩) | h
  · exact .inl (.inl (no h (by intro _ z; cases z) (by intro _ z; cases z) (by intro _ z; cases z)))
  · exact .inl (.inr ⟨o, no h (by intro _ z; cases z) (by intro _ z; cases z) (by intro _ z; cases z)⟩)
  · exact .inr h
theorem TupA.fr {a : Addr} {xs : List V} (f : Fr G m H m' H') (rs : RS K w m H S) (h : TupA K H a xs) : TupA K H' a xs := by
  rcases h with ⟨o, h, d⟩ | h
  · refine .inl ⟨o, (f.un a _ h fun l e => ?_).1, d⟩
    obtain ⟨o', _, r⟩ := rs.here e
    cases o' with
    | lst xs => obtain ⟨vs, h1, _⟩ := r; rw [h] at h1; cases h1
    | dct kvs => obtain ⟨vs, h1, _⟩ := r; rw [h] at h1; cases h1
    | set ns => have h1 := r.1; rw [h] at h1; cases h1
  · exact .inr h
theorem SqR.fr {a : Addr} {xs : List V} (f : Fr G m H m' H') (rs : RS K w m H S) (h : SqR K H a xs) : SqR K H' a xs := by
  rcases h with ⟨o, h⟩ | h
  · refine .inl ⟨o, (f.un a _ h fun l e => ?_).1⟩
    obtain ⟨o', _, r⟩ := rs.here e
    cases o' with
    | lst xs => obtain ⟨vs, h1, _⟩ := r; rw [h] at h1; cases h1
    | dct kvs => obtain ⟨vs, h1, _⟩ := r; rw [h] at h1; cases h1
    | set ns => have h1 := r.1; rw [h] at h1; cases h1
  · exact .inr h
mutual
theorem Rv.fr (f : Fr G m H m' H') (rs : RS K w m H S) : ∀ {x : PV} {v : V}, Rv K m H x v → Rv K m' H' x v
  | _, _, .non => .non
  | _, _, .bl b => .bl b
  | _, _, .int i => .int i
  | _, _, .str s h => .str s h
  | _, _, .tup h r => .tup (TupA.fr f rs h) (RvL.fr f rs r)
  | _, _, .ref h => .ref (f.le _ _ h)
  | _, _, .rol h => .rol (SqR.fr f rs h)
theorem RvL.fr (f : Fr G m H m' H') (rs : RS K w m H S) : ∀ {xs : List PV} {vs : List V}, RvL K m H xs vs → RvL K m' H' xs vs
  | _, _, .nil => .nil
  | _, _, .cons r t => .cons (Rv.fr f rs r) (RvL.fr f rs t)
end
theorem RkL.fr (f : Fr G m H m' H') (rs : RS K w m H S) : ∀ {xs : List (PK × PV)} {vs : List (Key × V)}, RkL K m H xs vs → RkL K m' H' xs vs
  | _, _, .nil => .nil
  | _, _, .cons k r t => .cons k (Rv.fr f rs r) (RkL.fr f rs t)
theorem REnv.fr (f : Fr G m H m' H') (rs : RS K w m H S) (h : REnv K m H σ τ) : REnv K m' H' σ τ :=
  ⟨h.len, fun i v q => by obtain ⟨V', h1, h2⟩ := h.get i v q; exact ⟨V', h1, Rv.fr f rs h2⟩⟩
theorem RelE.fr {y : EV} (f : Fr G m H m' H') (rs : RS K w m H S) (h : RelE K w m H y v) : RelE K w m' H' y v := by
  cases y with
  | val x => exact Rv.fr f rs h
  | tmp o =>
    obtain ⟨a, h1, h2, h3⟩ := h
    refine ⟨a, h1, ?_, ?_⟩
    · cases o with
      | lst xs => obtain ⟨vs, q1, q2⟩ := h2; exact ⟨vs, (f.un a _ q1 h3).1, RvL.fr f rs q2⟩
      | dct kvs => obtain ⟨vs, q1, q2⟩ := h2; exact ⟨vs, (f.un a _ q1 h3).1, RkL.fr f rs q2⟩
      | set ns => exact ⟨(f.un a _ h2.1 h3).1, h2.2⟩
    · obtain ⟨ho, q⟩ := h2.tracked
      exact (f.un a _ q h3).2
/-! #### a value below n speaks of places below n alone -/
mutual
theorem Rv.down {n : Nat} (h : ∀ l, l < n → m' l = m l) : ∀ {x : PV} {v : V}, x.bel n = true → Rv K m' H x v → Rv K m H x v
  | _, _, _, .non => .non
  | _, _, _, .bl b => .bl b
  | _, _, _, .int i => .int i
  | _, _, _, .str s h => .str s h
  | _, _, b, .tup hs r => .tup hs (RvL.down h b r)
  | _, _, b, .ref e => .ref (by rw [← h _ (of_decide_eq_true b)]; exact e)
  | _, _, _, .rol s => .rol s
theorem RvL.down {n : Nat} (h : ∀ l, l < n → m' l = m l) : ∀ {xs : List PV} {vs : List V}, PV.belL n xs = true → RvL K m' H xs vs → RvL K m H xs vs
  | _, _, _, .nil => .nil
  | _, _, b, .cons r t => by
    have b' := Bool.and_eq_true_iff.mp b
    exact .cons (Rv.down h b'.1 r) (RvL.down h b'.2 t)
end
theorem RkL.down {n : Nat} (h : ∀ l, l < n → m' l = m l) : ∀ {xs : List (PK × PV)} {vs : List (Key × V)}, PV.belL n (xs.map (·.2)) = true → RkL K m' H xs vs → RkL K m H xs vs
  | _, _, _, .nil => .nil
  | _, _, b, .cons k r t => by
    have b' := Bool.and_eq_true_iff.mp b
    exact .cons k (Rv.down h b'.1 r) (RkL.down h b'.2 t)
theorem Ro.down {n : Nat} (h : ∀ l, l < n → m' l = m l) (b : o.bel n = true) (r : Ro K w m' H o a) : Ro K w m H o a := by
  cases o with
  | lst xs => obtain ⟨vs, q1, q2⟩ := r; exact ⟨vs, q1, RvL.down h b q2⟩
  | dct kvs => obtain ⟨vs, q1, q2⟩ := r; exact ⟨vs, q1, RkL.down h b q2⟩
  | set ns => exact r
/-! #### a new place -/
def mNew (m : MP) (n : Nat) (a : Addr) : MP := fun l => if l = n then some a else m l
theorem mNew_same {n : Nat} : mNew m n a n = some a := by unfold mNew; rw [if_pos rfl]
theorem mNew_ne {n l : Nat} (h : l ≠ n) : mNew m n a l = m l := by unfold mNew; rw [if_neg h]
mutual
theorem Rv.up (h : ∀ l a, m l = some a → m' l = some a) : ∀ {x : PV} {v : V}, Rv K m H x v → Rv K m' H x v
  | _, _, .non => .non
  | _, _, .bl b => .bl b
  | _, _, .int i => .int i
  | _, _, .str s h => .str s h
  | _, _, .tup hs r => .tup hs (RvL.up h r)
  | _, _, .ref e => .ref (h _ _ e)
  | _, _, .rol s => .rol s
theorem RvL.up (h : ∀ l a, m l = some a → m' l = some a) : ∀ {xs : List PV} {vs : List V}, RvL K m H xs vs → RvL K m' H xs vs
  | _, _, .nil => .nil
  | _, _, .cons r t => .cons (Rv.up h r) (RvL.up h t)
end
theorem RkL.up (h : ∀ l a, m l = some a → m' l = some a) : ∀ {xs : List (PK × PV)} {vs : List (Key × V)}, RkL K m H xs vs → RkL K m' H xs vs
  | _, _, .nil => .nil
  | _, _, .cons k r t => .cons k (Rv.up h r) (RkL.up h t)
theorem Ro.up (h : ∀ l a, m l = some a → m' l = some a) (r : Ro K w m H o a) : Ro K w m' H o a := by
  cases o with
  | lst xs => obtain ⟨vs, q1, q2⟩ := r; exact ⟨vs, q1, RvL.up h q2⟩
  | dct kvs => obtain ⟨vs, q1, q2⟩ := r; exact ⟨vs, q1, RkL.up h q2⟩
  | set ns => exact r
/-- where an expression's new object was, nothing was tracked ahead of it -/
def FrE (H : Hp) (x : EV) (V' : V) : Prop :=
  match x with
  | .val _ => True
  | .tmp _ => ∀ a, V' = .ref a → H a = none
theorem Fr.none (f : Fr G m H m' H') (rs : RS K w m H S) (rs' : RS K w m' H' S') {p : Addr} (n : H' p = Option.none) : H p = Option.none := by
  cases q : H p with
  | none => rfl
  | some u =>
    by_cases hm : ∃ l, m l = some p
    · obtain ⟨l, e⟩ := hm
      exact absurd (f.le l p e) (rs'.free n l)
    · rw [(f.un p u q fun l e => hm ⟨l, e⟩).1] at n
      cases n
theorem FrE.back {y : EV} {V' : V} (f : Fr G m H m' H') (rs : RS K w m H S) (rs' : RS K w m' H' S') (h : FrE H' y V') : FrE H y V' := by
  cases y with
  | val x => trivial
  | tmp o => exact fun a e => f.none rs rs' (h a e)
/-- a new object becomes a place of the store -/
theorem RS.take (rs : RS K w m H S) (f : Fr G m H m' H') (rs' : RS K w m' H' S') (r : Ro K w m' H' o a) (n : ∀ l, m' l ≠ some a) (fr : H a = none) :
    RS K w (mNew m' S'.length a) H' (S' ++ [o]) ∧ Fr G m H (mNew m' S'.length a) H' ∧ (∀ l b, m' l = some b → mNew m' S'.length a l = some b) := by
  have le : ∀ l b, m' l = some b → mNew m' S'.length a l = some b := fun l b e => by
    rw [mNew_ne (fun q => by rw [q, rs'.next] at e; cases e)]; exact e
  refine ⟨⟨fun l o' e => ?_, fun l l' b e e' => ?_, fun l b e => ?_⟩, ⟨fun l b e => le l b (f.le l b e), fun b u q no => ⟨(f.un b u q no).1, fun l e => ?_⟩, f.pr⟩, le⟩
  · by_cases hl : l < S'.length
    · rw [List.getElem?_append_left hl] at e
      obtain ⟨b, h1, h2⟩ := rs'.obj l o' e
      exact ⟨b, le _ _ h1, Ro.up le h2⟩
    · rw [List.getElem?_append_right (by omega)] at e
      by_cases hz : l - S'.length = 0
      · have : l = S'.length := by omega
        subst this
        rw [Nat.sub_self] at e
        cases e
        exact ⟨a, mNew_same, Ro.up le r⟩
      · rw [List.getElem?_eq_none (by simp; omega)] at e
        cases e
  · by_cases h1 : l = S'.length
    · subst h1
      rw [mNew_same] at e
      cases e
      by_cases h2 : l' = S'.length
      · exact h2.symm
      · rw [mNew_ne h2] at e'
        exact absurd e' (n l')
    · rw [mNew_ne h1] at e
      by_cases h2 : l' = S'.length
      · subst h2
        rw [mNew_same] at e'
        cases e'
        exact absurd e (n l)
      · rw [mNew_ne h2] at e'
        exact rs'.inj _ _ _ e e'
  · by_cases h1 : l = S'.length
    · subst h1; simp
    · rw [mNew_ne h1] at e
      have := rs'.dom l b e
      simp
      omega
  · by_cases h1 : l = S'.length
    · subst h1
      rw [mNew_same] at e
      cases e
      rw [fr] at q
      cases q
    · rw [mNew_ne h1] at e
      exact (f.un b u q no).2 l e
end
end Mp
end partM2

section partM3
set_option Elab.async false
set_option linter.all false
set_option maxRecDepth 100000
/-! M3: values as the library's data; what lists and tuples hold. -/
namespace Mp
open PySem PySem.Spec PyProof.Rows L2
theorem SZ_eq : SZ = sizeLine := by decide
mutual
def toD : PV → PyData
  | .non => .none
  | .bl b => .bool b
  | .int i => .int i
  | .str s => .str ⟨s.toArray⟩
  | .tup xs => .tuple (toDs xs)
  | .ref _ => .none
  | .rol _ => .none
def toDs : List PV → List PyData
  | [] => []
  | x :: xs => toD x :: toDs xs
end
theorem toDs_map : ∀ xs : List PV, toDs xs = xs.map toD
  | [] => rfl
  | x :: xs => congrArg (toD x :: ·) (toDs_map xs)
mutual
theorem toD_depth : ∀ x : PV, (toD x).depth = x.dep
  | .non => rfl
  | .bl _ => rfl
  | .int _ => rfl
  | .str _ => rfl
  | .ref _ => rfl
  | .rol _ => rfl
  | .tup xs => congrArg (· + 1) (toDs_depth xs)
theorem toDs_depth : ∀ xs : List PV, PyData.depthAll (toDs xs) = PV.depL xs
  | [] => rfl
  | x :: xs => by
    show max (toD x).depth (PyData.depthAll (toDs xs)) = max x.dep (PV.depL xs)
    rw [toD_depth x, toDs_depth xs]
end
theorem strs_eq (x y : List Nat) : ((⟨x.toArray⟩ : Str) == ⟨y.toArray⟩) = (x == y) := by
  by_cases h : x = y
  · subst h; simp
  · have h' : ¬ (⟨x.toArray⟩ : Str) = ⟨y.toArray⟩ := fun e => h (by
      have := congrArg (fun s : Str => s.cps.toList) e
      simpa using this)
    rw [beq_eq_false_iff_ne.mpr h', beq_eq_false_iff_ne.mpr h]
mutual
theorem toD_eqv : ∀ x y : PV, x.bel 0 = true → y.bel 0 = true → PyData.eqv (toD x) (toD y) = PV.eqv x y
  | .non, y, _, hy => by cases y <;> first | rfl | simp [PV.bel] at hy
  | .bl _, y, _, hy => by cases y <;> first | rfl | simp [PV.bel] at hy
  | .int _, y, _, hy => by cases y <;> first | rfl | simp [PV.bel] at hy
  | .str x, y, _, hy => by
    cases y with
    | str y => exact strs_eq x y
    | ref l => simp [PV.bel] at hy
    | rol l => simp [PV.bel] at hy
    | _ => rfl
  | .ref _, _, hx, _ => by simp [PV.bel] at hx
  | .rol _, _, hx, _ => by simp [PV.bel] at hx
  | .tup xs, y, hx, hy => by
    cases y with
    | tup ys => exact toDs_eqv xs ys hx hy
    | ref l => simp [PV.bel] at hy
    | rol l => simp [PV.bel] at hy
    | _ => rfl
theorem toDs_eqv : ∀ xs ys : List PV, PV.belL 0 xs = true → PV.belL 0 ys = true → PyData.eqvAll (toDs xs) (toDs ys) = PV.eqvL xs ys
  | [], [], _, _ => rfl
  | [], _ :: _, _, _ => rfl
  | _ :: _, [], _, _ => rfl
  | x :: xs, y :: ys, hx, hy => by
    have hx' := Bool.and_eq_true_iff.mp hx
    have hy' := Bool.and_eq_true_iff.mp hy
    show (PyData.eqv (toD x) (toD y) && PyData.eqvAll (toDs xs) (toDs ys)) = (PV.eqv x y && PV.eqvL xs ys)
    rw [toD_eqv x y hx'.1 hy'.1, toDs_eqv xs ys hx'.2 hy'.2]
end
section
variable {K : PySem.W.Frag} {w : World} {m : MP} {H : Hp} {S : Sto}
mutual
theorem Rv.dp : ∀ {x : PV} {v : V}, x.bel 0 = true → Rv K m H x v → Dp K H v (toD x)
  | _, _, _, .non => .non
  | _, _, _, .bl b => .bl b
  | _, _, _, .int i => .int i
  | _, _, _, .str s h => .str _
  | _, _, b, .tup hs r => .tup hs.sq (RvL.dp b r)
  | _, _, b, .ref e => by simp [PV.bel] at b
  | _, _, b, .rol e => by simp [PV.bel] at b
theorem RvL.dp : ∀ {xs : List PV} {vs : List V}, PV.belL 0 xs = true → RvL K m H xs vs → DpAll K H vs (toDs xs)
  | _, _, _, .nil => .nil
  | _, _, b, .cons r t => by
    have b' := Bool.and_eq_true_iff.mp b
    exact .cons (Rv.dp b'.1 r) (RvL.dp b'.2 t)
end
mutual
theorem Rv.lay : ∀ {x : PV} {v : V}, Rv K m H x v → (toD x).canLay0 = true
  | _, _, .non => rfl
  | _, _, .bl b => rfl
  | _, _, .int i => rfl
  | _, _, .str s h => by
    show PyData.strOk ⟨s.toArray⟩ = true
    unfold PyData.strOk
    simpa using h.1
  | _, _, .tup hs r => RvL.lay r
  | _, _, .ref e => rfl
  | _, _, .rol e => rfl
theorem RvL.lay : ∀ {xs : List PV} {vs : List V}, RvL K m H xs vs → PyData.canLayAll0 (toDs xs) = true
  | _, _, .nil => rfl
  | _, _, .cons r t => Bool.and_eq_true_iff.mpr ⟨Rv.lay r, RvL.lay t⟩
end
theorem Rv.shaped {x : PV} {v : V} (r : Rv K m H x v) (h : x.dep ≤ 60) : SeqAt.shaped (toD x) = true := by
  unfold SeqAt.shaped
  rw [r.lay, toD_depth, decide_eq_true (by omega : x.dep ≤ 64)]
  rfl
theorem RvL.shaped {xs : List PV} {vs : List V} (r : RvL K m H xs vs) (h : PV.depL xs ≤ 59) : SeqAt.shaped (.list (toDs xs)) = true := by
  unfold SeqAt.shaped
  have e : (PyData.list (toDs xs)).depth = PV.depL xs + 1 := congrArg (· + 1) (toDs_depth xs)
  rw [e, decide_eq_true (by omega : PV.depL xs + 1 ≤ 64), show (PyData.list (toDs xs)).canLay0 = true from r.lay]
  rfl
/-! #### what is found at a place -/
theorem rvl_of_ints : ∀ ns : List Int, RvL K m H (ns.map .int) (ns.map V.int)
  | [] => .nil
  | i :: r => .cons (.int i) (rvl_of_ints r)
theorem itL_ok {x : EV} {V' : V} {xs : List PV} (rs : RS K w m H S) (r : RelE K w m H x V') (e : itL x S = some xs) : ∃ p vs, V' = .ref p ∧ H p = some (.lst vs) ∧ RvL K m H xs vs := by
  cases x with
  | val v =>
    cases v with
    | ref l =>
      cases r with
      | ref hm =>
        obtain ⟨o, h1, h2⟩ := rs.here hm
        simp only [itL, h1] at e
        cases o with
        | lst ys =>
          cases e
          obtain ⟨vs, q1, q2⟩ := h2
          exact ⟨_, vs, rfl, q1, q2⟩
        | _ => cases e
    | _ => cases e
  | tmp o =>
    cases o with
    | lst ys =>
      cases e
      obtain ⟨a, rfl, ⟨vs, q1, q2⟩, _⟩ := r
      exact ⟨_, vs, rfl, q1, q2⟩
    | _ => cases e
theorem itD_ok {x : EV} {V' : V} {kvs : List (PK × PV)} (rs : RS K w m H S) (r : RelE K w m H x V') (e : itD x S = some kvs) : ∃ p ws, V' = .ref p ∧ H p = some (.dK ws) ∧ RkL K m H kvs ws := by
  cases x with
  | val v =>
    cases v with
    | ref l =>
      cases r with
      | ref hm =>
        obtain ⟨o, h1, h2⟩ := rs.here hm
        simp only [itD, h1] at e
        cases o with
        | dct ys =>
          cases e
          obtain ⟨vs, q1, q2⟩ := h2
          exact ⟨_, vs, rfl, q1, q2⟩
        | _ => cases e
    | _ => cases e
  | tmp o =>
    cases o with
    | dct ys =>
      cases e
      obtain ⟨a, rfl, ⟨vs, q1, q2⟩, _⟩ := r
      exact ⟨_, vs, rfl, q1, q2⟩
    | _ => cases e
theorem itT_ok {x : EV} {V' : V} {xs : List PV} (rs : RS K w m H S) (r : RelE K w m H x V') (e : itT x S = some xs) : ∃ p vs, V' = .ref p ∧ (SqL K H p vs ∨ SqT K H p vs) ∧ RvL K m H xs vs := by
  have gen : itL x S = some xs → ∃ p vs, V' = .ref p ∧ (SqL K H p vs ∨ SqT K H p vs) ∧ RvL K m H xs vs := fun e => by
    obtain ⟨p, vs, h1, h2, h3⟩ := itL_ok rs r e
    exact ⟨p, vs, h1, .inl (SqL.of h2), h3⟩
  cases x with
  | tmp o => exact gen e
  | val v =>
    cases v with
    | tup ys =>
      cases e
      cases r with
      | tup h1 h2 => exact ⟨_, _, rfl, .inr h1.sq, h2⟩
    | rol ns =>
      cases e
      cases r with
      | rol h1 => exact ⟨_, _, rfl, .inl h1.sq, rvl_of_ints ns⟩
    | _ => exact gen e
/-- data at a value -/
theorem dat_ok {x : EV} {V' : V} {k : Bool} {y : PV} (rs : RS K w m H S) (r : RelE K w m H x V') (e : dat x S = some (k, y)) :
    y.bel 0 = true ∧ ∃ d, Dp K H V' d ∧ d.canLay0 = true ∧ d.depth = y.dep ∧ ((k = false ∧ d = toD y) ∨ (k = true ∧ ∃ xs, y = .tup xs ∧ d = .list (toDs xs))) := by
  have lst : ∀ {xs : List PV} {p : Addr} {vs : List V}, H p = some (.lst vs) → RvL K m H xs vs → PV.belL 0 xs = true → V' = .ref p → k = true → y = .tup xs →
      y.bel 0 = true ∧ ∃ d, Dp K H V' d ∧ d.canLay0 = true ∧ d.depth = y.dep ∧ ((k = false ∧ d = toD y) ∨ (k = true ∧ ∃ xs, y = .tup xs ∧ d = .list (toDs xs))) := by
    rintro xs p vs h1 h2 h3 rfl rfl rfl
    exact ⟨h3, .list (toDs xs), .lst (SqL.of h1) (RvL.dp h3 h2), RvL.lay h2, congrArg (· + 1) (toDs_depth xs), .inr ⟨rfl, xs, rfl, rfl⟩⟩
  have val : ∀ {v : PV}, Rv K m H v V' → (if v.bel 0 = true then some (false, v) else none) = some (k, y) →
      y.bel 0 = true ∧ ∃ d, Dp K H V' d ∧ d.canLay0 = true ∧ d.depth = y.dep ∧ ((k = false ∧ d = toD y) ∨ (k = true ∧ ∃ xs, y = .tup xs ∧ d = .list (toDs xs))) := by
    intro v h e
    split at e
    · rename_i hb
      cases e
      exact ⟨hb, _, h.dp hb, h.lay, toD_depth _, .inl ⟨rfl, rfl⟩⟩
    · cases e
  cases x with
  | tmp o =>
    cases o with
    | lst xs =>
      simp only [dat] at e
      split at e
      · rename_i hb
        cases e
        obtain ⟨a, rfl, ⟨vs, q1, q2⟩, _⟩ := r
        exact lst q1 q2 hb rfl rfl rfl
      · cases e
    | _ => cases e
  | val v =>
    cases v with
    | ref l =>
      cases r with
      | ref hm =>
        obtain ⟨o, h1, h2⟩ := rs.here hm
        simp only [dat, h1] at e
        cases o with
        | lst ys =>
          simp only at e
          split at e
          · rename_i hb
            cases e
            obtain ⟨vs, q1, q2⟩ := h2
            exact lst q1 q2 hb rfl rfl rfl
          · cases e
        | _ => cases e
    | non => exact val r e
    | bl _ => exact val r e
    | int _ => exact val r e
    | str _ => exact val r e
    | tup _ => exact val r e
    | rol _ => exact val r e
theorem dat_eqv {k k' : Bool} {x y : PV} {d e : PyData} (hx : x.bel 0 = true) (hy : y.bel 0 = true)
    (h : (k = false ∧ d = toD x) ∨ (k = true ∧ ∃ xs, x = .tup xs ∧ d = .list (toDs xs))) (h' : (k' = false ∧ e = toD y) ∨ (k' = true ∧ ∃ xs, y = .tup xs ∧ e = .list (toDs xs))) :
    PyData.eqv d e = if k = k' then PV.eqv x y else false := by
  have nl : ∀ z xs, z.bel 0 = true → PyData.eqv (toD z) (.list xs) = false := fun z xs hz => by cases z <;> first | rfl | simp [PV.bel] at hz
  have nl' : ∀ z xs, z.bel 0 = true → PyData.eqv (.list xs) (toD z) = false := fun z xs hz => by cases z <;> first | rfl | simp [PV.bel] at hz
  rcases h with ⟨rfl, rfl⟩ | ⟨rfl, xs, rfl, rfl⟩
  · rcases h' with ⟨rfl, rfl⟩ | ⟨rfl, ys, rfl, rfl⟩
    · rw [if_pos rfl, toD_eqv x y hx hy]
    · rw [if_neg (by decide), nl _ _ hx]
  · rcases h' with ⟨rfl, rfl⟩ | ⟨rfl, ys, rfl, rfl⟩
    · rw [if_neg (by decide), nl' _ _ hy]
    · rw [if_pos rfl]
      exact toDs_eqv xs ys hx hy
end
end Mp
end partM3

section partM4
set_option Elab.async false
set_option linter.all false
set_option maxRecDepth 100000
/-! M4: the operators of Mp over the model's. -/
namespace Mp
open PySem PySem.Spec PyProof.Rows L2
def Bop.op : Bop → Operator
  | .add => .Add | .sub => .Sub | .mul => .Mult | .fdiv => .FloorDiv | .mod => .Mod | .pow => .Pow | .shl => .LShift | .shr => .RShift
def Cop.op : Cop → CmpOp
  | .eq => .Eq | .ne => .NotEq | .lt => .Lt | .le => .LtE | .gt => .Gt | .ge => .GtE | .is => .Is | .isn => .IsNot | .in => .In | .nin => .NotIn
/-- a two-place operation: what it asks -/
def rB (K : PySem.W.Frag) (w : World) (f : EV → EV → Sto → Option EV) : R2 := fun x y H Q => ∃ (m : MP) (S : Sto) (a b v : EV), RS K w m H S ∧ RelE K w m H a x ∧ RelE K w m H b y ∧ f a b S = some v ∧
  ∀ V' H', Same H H' → RelE K w m H' v V' → FrE H v V' → Q V' H'
def rC (K : PySem.W.Frag) (w : World) (f : EV → EV → Sto → Option Bool) : R2 := fun x y H Q => ∃ (m : MP) (S : Sto) (a b : EV) (k : Bool), RS K w m H S ∧ RelE K w m H a x ∧ RelE K w m H b y ∧ f a b S = some k ∧ Q (.bl k) H
theorem same_upd {H : Hp} {p : Addr} {o : HO} (h : H p = none) : Same H (upd H p o) := fun b x e => by
  rw [upd_ne (ne_of_none e h)]; exact e
section
variable {K : PySem.W.Frag} {w : World} {m : MP} {H : Hp} {S : Sto}
/-- a new list -/
theorem new_lst {p : Addr} {xs : List PV} {vs : List V} (rs : RS K w m H S) (n : H p = none) (r : RvL K m H xs vs) : RelE K w m (upd H p (.lst vs)) (.tmp (.lst xs)) (.ref p) :=
  ⟨p, rfl, ⟨vs, upd_same, RvL.same (same_upd n) r⟩, rs.free n⟩
theorem new_tup {p : Addr} {o : Obj} {xs : List PV} {vs : List V} (n : H p = none) (d : o.dict = none) (r : RvL K m H xs vs) : RelE K w m (upd H p (.frz o (.tup vs))) (.val (.tup xs)) (.ref p) :=
  Rv.tup (.inl ⟨o, upd_same, d⟩) (RvL.same (same_upd n) r)
theorem fr_new {p : Addr} {o : PO} (n : H p = none) : FrE H (.tmp o) (.ref p) := fun a e => by cases e; exact n
theorem rvl_rep {xs : List PV} {vs : List V} (r : RvL K m H xs vs) : ∀ n : Nat, RvL K m H (List.replicate n xs).flatten (List.replicate n vs).flatten
  | 0 => .nil
  | n + 1 => by
    rw [List.replicate_succ, List.replicate_succ, List.flatten_cons, List.flatten_cons]
    exact r.append (rvl_rep r n)
theorem rv_str_add {x y : List Nat} (hx : StrP x) (hy : StrP y) (hl : x.length + y.length ≤ SZ) : Rv K m H (.str (x ++ y)) (.str (⟨x.toArray⟩ ++ ⟨y.toArray⟩)) := by
  have e : (⟨x.toArray⟩ ++ ⟨y.toArray⟩ : Str) = ⟨(x ++ y).toArray⟩ := by
    show Str.append _ _ = _
    unfold Str.append
    simp
  rw [e]
  exact .str _ ⟨fun c h => (List.mem_append.mp h).elim (hx.1 c) (hy.1 c), by rw [List.length_append]; exact hl⟩
end
section
variable {X : Cx}
theorem inB_ok {i : Int} (h : inB i = true) : -(2 ^ 64) < i ∧ i < 2 ^ 64 := by
  unfold inB at h
  have := Bool.and_eq_true_iff.mp h
  exact ⟨of_decide_eq_true this.1, of_decide_eq_true this.2⟩
theorem op_binI (o : Bop) : OpR X (binaryOp o.op) (fun x y H Q => ∃ i j k, x = .int i ∧ y = .int j ∧ binI o i j = some k ∧ Q (.int k) H) := by
  intro pins s σ H x y v u Q I rx ry ⟨i, j, k, ex, ey, e, q⟩
  cases o with
  | add => cases e; exact op_add pins s σ H x y v u Q I rx ry ⟨i, j, ex, ey, q⟩
  | sub => cases e; exact op_sub pins s σ H x y v u Q I rx ry ⟨i, j, ex, ey, q⟩
  | mul =>
    simp only [binI] at e
    split at e
    · rename_i h
      cases e
      refine op_mul pins s σ H x y v u Q I rx ry ⟨i, j, ex, ey, ?_, q⟩
      rcases Bool.or_eq_true_iff.mp h with h | h
      · exact .inl (inB_ok h)
      · exact .inr (inB_ok h)
    · cases e
  | fdiv =>
    simp only [binI] at e
    split at e
    · rename_i h
      cases e
      exact op_fdiv pins s σ H x y v u Q I rx ry ⟨i, j, ex, ey, h, q⟩
    · cases e
  | mod =>
    simp only [binI] at e
    split at e
    · rename_i h
      cases e
      exact op_mod pins s σ H x y v u Q I rx ry ⟨i, j, ex, ey, h, q⟩
    · cases e
  | pow =>
    simp only [binI] at e
    split at e
    · rename_i h
      cases e
      have := inB_ok h.2.2
      exact op_pow pins s σ H x y v u Q I rx ry ⟨i, j, ex, ey, ⟨h.1, h.2.1, by omega⟩, q⟩
    · cases e
  | shl =>
    simp only [binI] at e
    split at e
    · rename_i h
      cases e
      have := inB_ok h.2.2
      exact op_shl pins s σ H x y v u Q I rx ry ⟨i, j, ex, ey, ⟨h.1, h.2.1, by omega⟩, q⟩
    · cases e
  | shr =>
    simp only [binI] at e
    split at e
    · rename_i h
      cases e
      exact op_shr pins s σ H x y v u Q I rx ry ⟨i, j, ex, ey, h, q⟩
    · cases e
/-- t + u, the new tuple known -/
theorem op_catF : OpR X (binaryOp .Add) (fun x y H Q => ∃ a b xs ys, x = .ref a ∧ y = .ref b ∧ SqT X.K H a xs ∧ SqT X.K H b ys ∧ xs.length + ys.length ≤ sizeLine ∧
    (xs = [] → Q (.ref b) H) ∧ (xs ≠ [] → ys = [] → Q (.ref a) H) ∧ (xs ≠ [] → ys ≠ [] → ∀ (p : Addr) (o : Obj), H p = none → o.dict = none → Q (.ref p) (upd H p (.frz o (.tup (xs ++ ys)))))) := by
  intro pins s σ H x y v u Q I rx ry h
  obtain ⟨a, b, xs, ys, rfl, rfl, ha, hb, hz, q0, q1, q2⟩ := h
  by_cases hx : xs = []
  · exact op_catA pins s σ H _ _ v u Q I rx ry ⟨a, b, xs, ys, rfl, rfl, ha, hb, hz, q0, q1, fun n => absurd hx n⟩
  · cases rx
    cases ry
    obtain ⟨its, r1, p1, _⟩ := I.tuple ha
    obtain ⟨its2, r2, p2, _⟩ := I.tuple hb
    refine HT.cat_tup p1 p2 (fun z => hx (r1.nil_iff.mp z)) (fun z => ⟨.ref a, H, I, rfl, q1 hx (r2.nil_iff.mp z)⟩) (fun z => ?_) (by rw [← r1.length, ← r2.length]; exact hz)
    refine ⟨.ref s.heap.objs.size, _, I.laid (t' := s.toks) (o := .frz { cls := .type "tuple", data := .seq (its ++ its2).toArray } (.tup (xs ++ ys))) (fun b ob q => Heap.get?_push_of_some _ q) (Nat.le_refl _) ?_, rfl, q2 hx (fun w => z (r2.nil_iff.mpr w)) _ _ (I.hok.fresh (Nat.le_refl _)) rfl⟩
    exact ⟨Heap.get?_push_size _ rfl, by rw [List.length_append]; exact hz, _, r1.append r2, IsTup.new _ _⟩
theorem op_bin (o : Bop) : OpR X (binaryOp o.op) (rB X.K X.w (binE o)) := by
  intro pins s σ H x y v u Q I rx ry ⟨m, S, a, b, r, rs, ea, eb, e, q⟩
  unfold binE at e
  split at e
  · -- ints
    rename_i i j
    cases ea; cases eb
    obtain ⟨k, hk, rfl⟩ := Option.map_eq_some_iff.mp e
    exact op_binI o pins s σ H _ _ v u Q I rx ry ⟨i, j, k, rfl, rfl, hk, q _ H (Same.refl H) (.int k) trivial⟩
  · -- texts
    rename_i x' y'
    split at e
    · split at e
      · rename_i hl
        cases e
        cases ea with
        | str _ hx =>
        cases eb with
        | str _ hy =>
        refine op_add_str pins s σ H _ _ v u Q I rx ry ⟨_, _, rfl, rfl, ?_, q _ H (Same.refl H) (rv_str_add hx hy hl) trivial⟩
        rw [← SZ_eq]
        show x'.toArray.size + y'.toArray.size ≤ SZ
        simpa using hl
      · cases e
    · cases e
  · -- tuples
    rename_i xs ys
    split at e
    · split at e
      · rename_i hl
        cases e
        cases ea with
        | tup h1 r1 =>
        cases eb with
        | tup h2 r2 =>
        refine op_catF pins s σ H _ _ v u Q I rx ry ⟨_, _, _, _, rfl, rfl, h1.sq, h2.sq, ?_, fun e1 => ?_, fun n1 e2 => ?_, fun n1 n2 p o np d => ?_⟩
        · rw [← SZ_eq, ← r1.length, ← r2.length]; exact hl
        · subst e1
          cases r1
          exact q _ H (Same.refl H) (Rv.tup h2 r2) trivial
        · subst e2
          cases r2
          refine q _ H (Same.refl H) ?_ trivial
          rw [List.append_nil]
          exact Rv.tup h1 r1
        · exact q _ _ (same_upd np) (new_tup np d (r1.append r2)) trivial
      · cases e
    · cases e
  · split at e
    · -- lists
      split at e
      · rename_i xs ys e1 e2
        split at e
        · rename_i hl
          cases e
          obtain ⟨p1, vs1, rfl, h1, r1⟩ := itL_ok rs ea e1
          obtain ⟨p2, vs2, rfl, h2, r2⟩ := itL_ok rs eb e2
          refine op_cat pins s σ H _ _ v u Q I rx ry ⟨_, _, _, _, rfl, rfl, h1, h2, ?_, fun p np => ?_⟩
          · rw [← SZ_eq, ← r1.length, ← r2.length]; exact hl
          · exact q _ _ (same_upd np) (new_lst rs np (r1.append r2)) (fr_new np)
        · cases e
      · cases e
    · -- repeated
      split at e
      · split at e
        · rename_i hl
          cases e
          cases eb
          obtain ⟨p1, vs1, rfl, h1, r1⟩ := itL_ok rs ea (by assumption)
          refine op_rep pins s σ H _ _ v u Q I rx ry ⟨_, _, _, rfl, rfl, h1, hl.1, hl.2.1, ?_, fun p np => ?_⟩
          · rw [← SZ_eq, ← r1.length]; exact hl.2.2
          · exact q _ _ (same_upd np) (new_lst rs np (rvl_rep r1 _)) (fr_new np)
        · cases e
      · cases e
    · cases e
/-! #### comparisons -/
theorem not_isNon {x : PV} {v : V} {m : MP} {K : PySem.W.Frag} {H : Hp} (r : Rv K m H x v) : decide (v = .non) = (match x with | .non => true | _ => false) := by
  cases r <;> simp
theorem isNon_ok {x : EV} {V' : V} {k : Bool} {K : PySem.W.Frag} {w : World} {m : MP} {H : Hp} (r : RelE K w m H x V') (e : isNon x = some k) : decide (V' = .non) = k := by
  cases x with
  | tmp o => obtain ⟨a, rfl, _⟩ := r; cases e; simp
  | val v =>
    cases r with
    | non => cases e; simp
    | _ => cases e; simp
theorem eqU_ok {pins : List (Addr × Obj)} {s : Shared} {σ : L2.St} {H : Hp} {x y : V} {v u : Value} {m : MP} {S : Sto} {a b : EV} {k : Bool} (I : Inv X pins σ H s) (rs : RS X.K X.w m H S) (ea : RelE X.K X.w m H a x) (eb : RelE X.K X.w m H b y) (e : eqE a b S = some k) :
    ∃ d d', Dp X.K H x d ∧ Dp X.K H y d' ∧ SeqAt.shaped d = true ∧ SeqAt.shaped d' = true ∧ PyData.eqv d d' = k := by
  unfold eqE at e
  split at e
  · rename_i k1 x1 k2 x2 e1 e2
    split at e
    · rename_i hd
      obtain ⟨b1, d1, p1, l1, n1, c1⟩ := dat_ok rs ea e1
      obtain ⟨b2, d2, p2, l2, n2, c2⟩ := dat_ok rs eb e2
      refine ⟨d1, d2, p1, p2, ?_, ?_, (dat_eqv b1 b2 c1 c2).trans (Option.some.inj e)⟩
      · unfold SeqAt.shaped; rw [l1, decide_eq_true (by omega : d1.depth ≤ 64)]; rfl
      · unfold SeqAt.shaped; rw [l2, decide_eq_true (by omega : d2.depth ≤ 64)]; rfl
    · cases e
  · cases e
theorem any_eqv {x : PV} (hx : x.bel 0 = true) : ∀ ys : List PV, PV.belL 0 ys = true → ((toDs ys).any fun z => PyData.eqv z (toD x)) = ys.any fun y => PV.eqv y x
  | [], _ => rfl
  | y :: ys, h => by
    have h' := Bool.and_eq_true_iff.mp h
    show (PyData.eqv (toD y) (toD x) || (toDs ys).any _) = (PV.eqv y x || ys.any _)
    rw [toD_eqv y x h'.1 hx, any_eqv hx ys h'.2]
theorem kRel_pv {K : PySem.W.Frag} {m : MP} {H : Hp} {x : PV} {v : V} {k : PK} (e : PK.of x = some k) (r : Rv K m H x v) : ∃ q, kRel k q ∧ v = kV q := by
  cases r with
  | int i => cases e; exact ⟨.inl i, rfl, rfl⟩
  | str s h => cases e; exact ⟨.inr ⟨s.toArray⟩, ⟨rfl, h⟩, rfl⟩
  | _ => cases e
theorem kRel_eq {k k' : PK} {q q' : Key} (r : kRel k q) (r' : kRel k' q') : decide (q = q') = decide (k = k') := by
  cases k with
  | kI i =>
    cases r
    cases k' with
    | kI j => cases r'; simp
    | kS y => obtain ⟨rfl, _⟩ := r'; simp
  | kS x =>
    obtain ⟨rfl, _⟩ := r
    cases k' with
    | kI j => cases r'; simp
    | kS y =>
      obtain ⟨rfl, _⟩ := r'
      by_cases h : x = y
      · subst h; simp
      · have h' : ¬ (Sum.inr ⟨x.toArray⟩ : Key) = Sum.inr ⟨y.toArray⟩ := fun e => h (by
          have := congrArg (fun s : Str => s.cps.toList) (Sum.inr.inj e)
          simpa using this)
        rw [decide_eq_false h', decide_eq_false (fun z => h (PK.kS.inj z))]
theorem dGet_ok {K : PySem.W.Frag} {m : MP} {H : Hp} {k : PK} {q : Key} (rk : kRel k q) : ∀ {kvs : List (PK × PV)} {ws : List (Key × V)}, RkL K m H kvs ws →
    (∀ x, dGet kvs k = some x → ∃ v, valV ws q = some v ∧ Rv K m H x v) ∧ (dGet kvs k = none → valV ws q = none)
  | _, _, .nil => ⟨fun x e => (by cases e), fun _ => rfl⟩
  | _, _, .cons (k := k1) (q := q1) (x := x1) (v := v1) (xs := xs) (vs := vs) r1 r2 t => by
    have ih := dGet_ok rk t
    have hd := kRel_eq r1 rk
    unfold dGet valV at *
    rw [List.find?_cons, List.find?_cons]
    dsimp only
    rw [hd]
    cases hk : decide (k1 = k) with
    | true => exact ⟨fun x e => (by cases e; exact ⟨v1, rfl, r2⟩), fun e => (by cases e)⟩
    | false => exact ih
theorem op_in (hu : X.A.units + 65 < cLine) : OpR X (compareOp .In) (rC X.K X.w inE) ∧ OpR X (compareOp .NotIn) (rC X.K X.w fun a b S => (inE a b S).map not) := by
  have key : ∀ {m : MP} {H : Hp} {S : Sto} {a b : EV} {x y : V} {k : Bool}, RS X.K X.w m H S → RelE X.K X.w m H a x → RelE X.K X.w m H b y → inE a b S = some k →
      (∃ (c : Nat) (z : Str), x = .str ⟨#[c]⟩ ∧ y = .str z ∧ decide (c ∈ z.cps.toList) = k) ∨
      (∃ d ds, Dp X.K H x d ∧ SeqAt.shaped d = true ∧ SeqAt.shaped (.list ds) = true ∧ (ds.any fun z => PyData.eqv z d) = k ∧ (Dp X.K H y (.list ds) ∨ Dp X.K H y (.tuple ds))) ∨
      (∃ p o, y = .ref p ∧ DGet H p x o ∧ o.isSome = k) := by
    intro m H S a b x y k rs ea eb e
    cases a with
    | tmp o => cases e
    | val a =>
      unfold inE at e
      split at e
      · cases e
      · rename_i x1 ea'
        cases ea'
        split at e
        · rename_i s
          split at e
          · rename_i c
            cases eb with
            | str _ h =>
            cases ea with
            | str _ h' =>
            refine .inl ⟨c, _, rfl, rfl, ?_⟩
            simpa using Option.some.inj e
          · cases e
        · rename_i hne
          split at e
          · rename_i ys e1
            split at e
            · rename_i hc
              obtain ⟨hb1, hb2, hd1, hd2⟩ := hc
              obtain ⟨p, vs, rfl, hs, r⟩ := itT_ok rs eb e1
              refine .inr (.inl ⟨toD a, toDs ys, ea.dp hb1, ea.shaped hd1, r.shaped hd2, (any_eqv hb1 ys hb2).trans (Option.some.inj e), ?_⟩)
              rcases hs with hs | hs
              · exact .inl (.lst hs (r.dp hb2))
              · exact .inr (.tup hs (r.dp hb2))
            · cases e
          · rename_i e1
            split at e
            · rename_i kvs k' e2 e3
              obtain ⟨p, ws, rfl, hp, r⟩ := itD_ok rs eb e2
              obtain ⟨q, rq, rfl⟩ := kRel_pv e3 ea
              have g := dGet_ok rq r
              refine .inr (.inr ⟨p, valV ws q, rfl, DGet.k hp, ?_⟩)
              have e' := Option.some.inj e
              cases hg : dGet kvs k' with
              | none => rw [hg] at e'; rw [g.2 hg]; exact e'
              | some z => rw [hg] at e'; obtain ⟨v, hv, _⟩ := g.1 z hg; rw [hv]; exact e'
            · cases e
  refine ⟨fun pins s σ H x y v u Q I rx ry ⟨m, S, a, b, k, rs, ea, eb, e, q⟩ => ?_, fun pins s σ H x y v u Q I rx ry ⟨m, S, a, b, k, rs, ea, eb, e, q⟩ => ?_⟩
  · rcases key rs ea eb e with ⟨c, z, rfl, rfl, rfl⟩ | ⟨d, ds, h1, s1, s2, rfl, h2 | h2⟩ | ⟨p, o, rfl, g, rfl⟩
    · exact op_in_sign pins s σ H _ _ v u Q I rx ry ⟨c, z, rfl, rfl, q⟩
    · exact op_inD hu pins s σ H _ _ v u Q I rx ry ⟨d, ds, h1, h2, s1, s2, q⟩
    · obtain ⟨as, r1⟩ := Dp.reads I d x v h1 rx
      obtain ⟨bs, r2⟩ := Dp.reads I (.tuple ds) y u h2 ry
      exact SeqAt.in_tuple_reads r2 r1 (SeqAt.canLay_of_shaped (d := .list ds) s2) (SeqAt.canLay_of_shaped s1) (room_in_shaped s1 hu) ⟨.bl _, H, I, rfl, q⟩
    · cases ry
      exact d_in (by omega) I g rx fun s3 I3 => ⟨.bl _, H, I3, rfl, q⟩
  · obtain ⟨k', e', rfl⟩ := Option.map_eq_some_iff.mp e
    rcases key rs ea eb e' with ⟨c, z, rfl, rfl, rfl⟩ | ⟨d, ds, h1, s1, s2, rfl, h2 | h2⟩ | ⟨p, o, rfl, g, rfl⟩
    · exact op_notIn_sign pins s σ H _ _ v u Q I rx ry ⟨c, z, rfl, rfl, q⟩
    · exact op_notInD hu pins s σ H _ _ v u Q I rx ry ⟨d, ds, h1, h2, s1, s2, q⟩
    · obtain ⟨as, r1⟩ := Dp.reads I d x v h1 rx
      obtain ⟨bs, r2⟩ := Dp.reads I (.tuple ds) y u h2 ry
      exact SeqAt.notIn_tuple_reads r2 r1 (SeqAt.canLay_of_shaped (d := .list ds) s2) (SeqAt.canLay_of_shaped s1) (room_in_shaped s1 hu) ⟨.bl _, H, I, rfl, q⟩
    · cases ry
      exact d_notIn (by omega) I g rx fun s3 I3 => ⟨.bl _, H, I3, rfl, q⟩
theorem op_cmp (hu : X.A.units + 65 < cLine) (o : Cop) : OpR X (compareOp o.op) (rC X.K X.w (cmpE o)) := by
  have intz : ∀ {m : MP} {H : Hp} {S : Sto} {a b : EV} {x y : V} {k : Bool} {o : Cop}, RelE X.K X.w m H a x → RelE X.K X.w m H b y → (match a, b with | .val (.int i), .val (.int j) => cmpI o i j | _, _ => none) = some k →
      ∃ i j, x = .int i ∧ y = .int j ∧ cmpI o i j = some k := by
    intro m H S a b x y k o ea eb e
    split at e
    · cases ea; cases eb
      exact ⟨_, _, rfl, rfl, e⟩
    · cases e
  cases o with
  | «in» => exact (op_in hu).1
  | nin => exact (op_in hu).2
  | eq =>
    intro pins s σ H x y v u Q I rx ry ⟨m, S, a, b, k, rs, ea, eb, e, q⟩
    obtain ⟨d, d', h1, h2, s1, s2, rfl⟩ := eqU_ok (v := v) (u := u) I rs ea eb e
    exact op_eqD (by omega) pins s σ H x y v u Q I rx ry ⟨d, d', h1, h2, s1, s2, q⟩
  | ne =>
    intro pins s σ H x y v u Q I rx ry ⟨m, S, a, b, k, rs, ea, eb, e, q⟩
    obtain ⟨k', e', rfl⟩ := Option.map_eq_some_iff.mp e
    obtain ⟨d, d', h1, h2, s1, s2, rfl⟩ := eqU_ok (v := v) (u := u) I rs ea eb e'
    exact op_neD (by omega) pins s σ H x y v u Q I rx ry ⟨d, d', h1, h2, s1, s2, q⟩
  | is =>
    intro pins s σ H x y v u Q I rx ry ⟨m, S, a, b, k, rs, ea, eb, e, q⟩
    simp only [cmpE] at e
    split at e
    · cases eb
      have := isNon_ok ea e
      exact op_isN pins s σ H _ _ v u Q I rx ry ⟨rfl, by rw [this]; exact q⟩
    · cases e
  | isn =>
    intro pins s σ H x y v u Q I rx ry ⟨m, S, a, b, k, rs, ea, eb, e, q⟩
    simp only [cmpE] at e
    split at e
    · cases eb
      obtain ⟨k', e', rfl⟩ := Option.map_eq_some_iff.mp e
      have := isNon_ok ea e'
      exact op_notN pins s σ H _ _ v u Q I rx ry ⟨rfl, by rw [this]; exact q⟩
    · cases e
  | lt =>
    intro pins s σ H x y v u Q I rx ry ⟨m, S, a, b, k, rs, ea, eb, e, q⟩
    obtain ⟨i, j, rfl, rfl, e⟩   := intz (S := S) (o := .lt) ea eb e
    cases e
    exact op_lt pins s σ H _ _ v u Q I rx ry ⟨i, j, rfl, rfl, q⟩
  | le =>
    intro pins s σ H x y v u Q I rx ry ⟨m, S, a, b, k, rs, ea, eb, e, q⟩
    obtain ⟨i, j, rfl, rfl, e⟩   := intz (S := S) (o := .le) ea eb e
    cases e
    exact op_le pins s σ H _ _ v u Q I rx ry ⟨i, j, rfl, rfl, q⟩
  | gt =>
    intro pins s σ H x y v u Q I rx ry ⟨m, S, a, b, k, rs, ea, eb, e, q⟩
    obtain ⟨i, j, rfl, rfl, e⟩   := intz (S := S) (o := .gt) ea eb e
    cases e
    exact op_gt pins s σ H _ _ v u Q I rx ry ⟨i, j, rfl, rfl, q⟩
  | ge =>
    intro pins s σ H x y v u Q I rx ry ⟨m, S, a, b, k, rs, ea, eb, e, q⟩
    obtain ⟨i, j, rfl, rfl, e⟩   := intz (S := S) (o := .ge) ea eb e
    cases e
    exact op_ge pins s σ H _ _ v u Q I rx ry ⟨i, j, rfl, rfl, q⟩
end
end Mp
end partM4

section partM5
set_option Elab.async false
set_option linter.all false
set_option maxRecDepth 100000
/-! M5: subscripts, truth, built-in functions, methods of lists, stores. -/
namespace Mp
open PySem PySem.Spec PyProof.Rows L2
inductive RelEL (K : PySem.W.Frag) (w : World) (m : MP) (H : Hp) : List EV → List V → Prop
  | nil : RelEL K w m H [] []
  | cons {x : EV} {v : V} {xs : List EV} {vs : List V} : RelE K w m H x v → RelEL K w m H xs vs → RelEL K w m H (x :: xs) (v :: vs)
/-- reading alone: what a one-place thing asks -/
def rP (K : PySem.W.Frag) (w : World) (f : EV → EV → Sto → Option PV) : R2 := fun x y H Q => ∃ (m : MP) (S : Sto) (a b : EV) (z : PV), RS K w m H S ∧ RelE K w m H a x ∧ RelE K w m H b y ∧ f a b S = some z ∧ ∀ V', Rv K m H z V' → Q V' H
def rS (K : PySem.W.Frag) (w : World) : V → Option Int → Option Int → Hp → VK → Prop := fun x lo hi H Q => ∃ (m : MP) (S : Sto) (a v : EV), RS K w m H S ∧ RelE K w m H a x ∧ slcE a lo hi S = some v ∧
  ∀ V' H', Same H H' → RelE K w m H' v V' → FrE H v V' → Q V' H'
def rA (K : PySem.W.Frag) (w : World) (f : List EV → Sto → Option EV) : List V → Hp → VK → Prop := fun xs H Q => ∃ (m : MP) (S : Sto) (as : List EV) (v : EV), RS K w m H S ∧ RelEL K w m H as xs ∧ f as S = some v ∧
  ∀ V' H', Same H H' → RelE K w m H' v V' → FrE H v V' → Q V' H'
section
variable {K : PySem.W.Frag} {w : World} {m : MP} {H : Hp} {S : Sto}
theorem RelEL.one {a : EV} {vs : List V} (r : RelEL K w m H [a] vs) : ∃ v, vs = [v] ∧ RelE K w m H a v := by
  cases r with
  | cons h t => cases t; exact ⟨_, rfl, h⟩
theorem RelEL.two {a b : EV} {vs : List V} (r : RelEL K w m H [a, b] vs) : ∃ v u, vs = [v, u] ∧ RelE K w m H a v ∧ RelE K w m H b u := by
  cases r with
  | cons h t =>
    obtain ⟨u, rfl, h2⟩ := t.one
    exact ⟨_, _, rfl, h, h2⟩
theorem pyPos_ix (n : Nat) (i : Int) : pyPos n i = ixN n i := rfl
theorem pyIdx_at {xs : List PV} {vs : List V} {i : Int} {z : PV} (r : RvL K m H xs vs) (e : pyIdx xs i = some z) : ∃ v, atI vs i = some v ∧ Rv K m H z v := by
  unfold pyIdx at e
  rw [Option.bind_eq_some_iff] at e
  obtain ⟨j, h1, h2⟩ := e
  obtain ⟨v, h3, h4⟩ := r.get h2
  refine ⟨v, ?_, h4⟩
  unfold atI
  rw [← r.length, ← pyPos_ix, h1]
  exact h3
theorem pyCut_cut {xs : List PV} {vs : List V} {lo hi : Option Int} (r : RvL K m H xs vs) : RvL K m H (pyCut xs lo hi) (cutV vs lo hi) := by
  unfold pyCut cutV
  rw [r.length]
  exact (r.drop _).take _
theorem sortI_perm : ∀ ns : List Int, (sortI ns).Perm ns
  | [] => .nil
  | i :: r => by
    have ins : ∀ (i : Int) (l : List Int), (insI i l).Perm (i :: l) := fun i l => by
      induction l with
      | nil => exact .refl _
      | cons j r ih =>
        unfold insI
        split
        · exact .refl _
        · exact (ih.cons j).trans (.swap i j r)
    exact (ins i _).trans ((sortI_perm r).cons i)
theorem sortI_sorted : ∀ ns : List Int, (sortI ns).Pairwise (· ≤ ·)
  | [] => .nil
  | i :: r => by
    have ins : ∀ (i : Int) (l : List Int), l.Pairwise (· ≤ ·) → (insI i l).Pairwise (· ≤ ·) ∧ ∀ x ∈ insI i l, x = i ∨ x ∈ l := fun i l => by
      induction l with
      | nil => exact fun _ => ⟨List.pairwise_singleton _ _, fun x h => .inl (by simpa [insI] using h)⟩
      | cons j r ih =>
        intro h
        have h' := List.pairwise_cons.mp h
        unfold insI
        split
        · rename_i hij
          exact ⟨List.pairwise_cons.mpr ⟨fun x hx => by
            rcases List.mem_cons.mp hx with rfl | hx
            · exact hij
            · exact Int.le_trans hij (h'.1 x hx), h⟩, fun x hx => by simpa using hx⟩
        · rename_i hij
          have q := ih h'.2
          refine ⟨List.pairwise_cons.mpr ⟨fun x hx => ?_, q.1⟩, fun x hx => ?_⟩
          · rcases q.2 x hx with rfl | hx
            · omega
            · exact h'.1 x hx
          · rcases List.mem_cons.mp hx with rfl | hx
            · exact .inr List.mem_cons_self
            · rcases q.2 x hx with rfl | hx
              · exact .inl rfl
              · exact .inr (List.mem_cons_of_mem _ hx)
    exact (ins i _ (sortI_sorted r)).1
theorem sorted_is {ns ns' : List Int} (hp : ns'.Perm ns) (hs : ns'.Pairwise (· ≤ ·)) : ns' = sortI ns := PySem.W.ksm_same (hp.trans (sortI_perm ns).symm) hs (sortI_sorted ns)
theorem allInts_map : ∀ {xs : List PV} {ns : List Int}, allInts xs = some ns → xs = ns.map .int
  | [], ns, e => by cases e; rfl
  | .int i :: r, ns, e => by
    unfold allInts at e
    obtain ⟨ms, h, rfl⟩ := Option.map_eq_some_iff.mp e
    rw [allInts_map h]
    rfl
  | .non :: _, _, e => by cases e
  | .bl _ :: _, _, e => by cases e
  | .str _ :: _, _, e => by cases e
  | .tup _ :: _, _, e => by cases e
  | .ref _ :: _, _, e => by cases e
  | .rol _ :: _, _, e => by cases e
theorem rvl_ints : ∀ {ns : List Int} {vs : List V}, RvL K m H (ns.map .int) vs → vs = ns.map V.int
  | [], _, .nil => rfl
  | _ :: _, _, .cons (.int i) t => by rw [rvl_ints t]; rfl
end
section
variable {X : Cx}
/-- a[i] -/
theorem ix_E (hu : X.A.units + 1 < cLine) : IxR X (rP X.K X.w idxE) := by
  intro value slice pins s σ H x y v u Q I rx ry ⟨m, S, a, b, z, rs, ea, eb, e, q⟩ hs
  have dct : itT a S = none → ∀ b', b = .val b' → (match itD a S, PK.of b' with | some kvs, some k => dGet kvs k | _, _ => none) = some z → wpAny (model X.prog X.w) X.A (subscriptTail value slice v u) (EP X pins σ Q) X.xe s := by
    rintro _ b' rfl e
    split at e
    · rename_i kvs k e2 e3
      obtain ⟨p, ws, rfl, hp, r⟩ := itD_ok rs ea e2
      obtain ⟨q1, rq, rfl⟩ := kRel_pv e3 eb
      obtain ⟨v', hv, rv⟩ := (dGet_ok rq r).1 z e
      have g : DGet H p (kV q1) (some v') := by
        have := DGet.k (k := q1) hp
        rw [hv] at this
        exact this
      cases rx
      exact tail_any (dict_typeIs I g) PySem.F.slot_dict_getitem.lookup (d_getItem hu I g ry fun w' s3 I3 rw' => ⟨v', H, I3, rw', q v' rv⟩) hs
    · cases e
  have seq : ∀ {xs : List PV} {b' : PV}, itT a S = some xs → b = .val b' → (match b' with | .int i => pyIdx xs i | _ => none) = some z → wpAny (model X.prog X.w) X.A (subscriptTail value slice v u) (EP X pins σ Q) X.xe s := by
    rintro xs b' e1 rfl e
    split at e
    · cases eb
      obtain ⟨p, vs, rfl, hsq, r⟩ := itT_ok rs ea e1
      obtain ⟨v', h1, h2⟩ := pyIdx_at r e
      refine ix_seq value slice pins s σ H _ _ v u Q I rx ry ?_ hs
      rcases hsq with hsq | hsq
      · exact .inl ⟨p, vs, _, v', rfl, rfl, hsq, h1, q v' h2⟩
      · exact .inr (.inl ⟨p, vs, _, v', rfl, rfl, hsq, h1, q v' h2⟩)
    · cases e
  unfold idxE at e
  split at e
  · rename_i b'
    split at e
    · rename_i s'
      split at e
      · rename_i i
        obtain ⟨c, hc, rfl⟩ := Option.map_eq_some_iff.mp e
        cases ea with
        | str _ h =>
        cases eb
        refine ix_str value slice pins s σ H _ _ v u Q I rx ry ⟨⟨s'.toArray⟩, i, c, rfl, rfl, ?_, ?_, ?_⟩ hs
        · rw [← SZ_eq]
          show s'.toArray.size ≤ SZ
          simpa using h.2
        · unfold pyIdx at hc
          unfold atI
          simpa [pyPos_ix] using hc
        · refine q _ (Rv.str [c] ⟨fun d hd => ?_, (by show 1 ≤ SZ; decide)⟩)
          have : d = c := by simpa using hd
          subst this
          unfold pyIdx at hc
          rw [Option.bind_eq_some_iff] at hc
          obtain ⟨j, _, hj⟩ := hc
          exact h.1 _ (List.mem_of_getElem? hj)
      · cases e
    · split at e
      · rename_i xs e1
        exact seq e1 rfl e
      · rename_i e1
        exact dct e1 _ rfl e
  · cases e
/-- a[lo:hi] -/
theorem sl_tupF : SlR X (fun x lo hi H Q => ∃ a xs, x = .ref a ∧ SqT X.K H a xs ∧ (cutV xs lo hi = xs → Q (.ref a) H) ∧ ∀ (p : Addr) (o : Obj), H p = none → o.dict = none → Q (.ref p) (upd H p (.frz o (.tup (cutV xs lo hi))))) := by
  intro pins s σ H x v vl vu lo hi sl Q I rx hs pl pu h
  obtain ⟨a, xs, rfl, hx, q1, q2⟩ := h
  by_cases hw : HT.sIx xs.length 0 lo = 0 ∧ HT.sIx xs.length xs.length hi = xs.length
  · refine sl_tupA pins s σ H _ v vl vu lo hi sl Q I rx hs pl pu ⟨a, xs, rfl, hx, fun _ => q1 ?_, fun n => absurd hw n⟩
    unfold cutV
    rw [hw.1, hw.2]
    simp
  · cases rx
    obtain ⟨its, r, ht, hz⟩ := I.tuple hx
    have hlen : its.toArray.size = xs.length := by rw [List.size_toArray]; exact r.length.symm
    refine ⟨"tuple", _, PyProof.Rows.slot_tuple_getitem.lookup, ht.typeIs, ?_⟩
    refine HT.getItem_tuple_cut ht hs pl pu (by rw [hlen]; exact hw) ?_ (by rw [hlen]; exact hz)
    rw [hlen]
    refine ⟨.ref s.heap.objs.size, _, I.laid (t' := s.toks) (o := .frz { cls := .type "tuple", data := .seq (((its.drop (HT.sIx xs.length 0 lo)).take (HT.sIx xs.length xs.length hi - HT.sIx xs.length 0 lo)).toArray) } (.tup (cutV xs lo hi))) (fun b ob q => Heap.get?_push_of_some _ q) (Nat.le_refl _) ?_, rfl, q2 _ _ (I.hok.fresh (Nat.le_refl _)) rfl⟩
    exact ⟨Heap.get?_push_size _ rfl, Nat.le_trans (cutV_length xs lo hi) hz, _, (r.drop (HT.sIx xs.length 0 lo)).take (HT.sIx xs.length xs.length hi - HT.sIx xs.length 0 lo), IsTup.new _ _⟩
theorem sl_E : SlR X (rS X.K X.w) := by
  intro pins s σ H x v vl vu lo hi sl Q I rx hs pl pu ⟨m, S, a, r, rs, ea, e, q⟩
  unfold slcE at e
  split at e
  · rename_i xs
    cases e
    cases ea with
    | tup h1 r1 =>
    refine sl_tupF pins s σ H _ v vl vu lo hi sl Q I rx hs pl pu ⟨_, _, rfl, h1.sq, fun e => q _ H (Same.refl H) ?_ trivial, fun p o np d => q _ _ (same_upd np) (new_tup np d (pyCut_cut r1)) trivial⟩
    refine Rv.tup h1 ?_
    have c := pyCut_cut (lo := lo) (hi := hi) r1
    rw [e] at c
    exact c
  · cases e
  · split at e
    · rename_i xs e1
      cases e
      obtain ⟨p, vs, rfl, hp, r1⟩ := itL_ok rs ea e1
      exact sl_list pins s σ H _ v vl vu lo hi sl Q I rx hs pl pu ⟨_, _, rfl, SqL.of hp, fun p np => q _ _ (same_upd np) (new_lst rs np (pyCut_cut r1)) (fr_new np)⟩
    · cases e
/-- truth -/
theorem isEmpty_rvl {K : PySem.W.Frag} {m : MP} {H : Hp} {xs : List PV} {vs : List V} (r : RvL K m H xs vs) : xs.isEmpty = vs.isEmpty := by cases r <;> rfl
theorem isEmpty_rkl {K : PySem.W.Frag} {m : MP} {H : Hp} {xs : List (PK × PV)} {vs : List (Key × V)} (r : RkL K m H xs vs) : xs.isEmpty = vs.isEmpty := by cases r <;> rfl
theorem tru_o {K : PySem.W.Frag} {w : World} {m : MP} {H : Hp} {o : PO} {p : Addr} {k : Bool} (r : Ro K w m H o p) (e : o.tru = some k) : TruV K (.ref p) H k := by
  cases o with
  | lst xs => cases e; obtain ⟨vs, h1, h2⟩ := r; exact .inl ⟨vs, SqL.of h1, by rw [isEmpty_rvl h2]⟩
  | dct kvs => cases e; obtain ⟨vs, h1, h2⟩ := r; exact .inr (.inr ⟨vs, h1, by rw [isEmpty_rkl h2]⟩)
  | set ns => cases e
theorem tru_E {K : PySem.W.Frag} {w : World} {m : MP} {H : Hp} {S : Sto} {a : EV} {x : V} {k : Bool} (rs : RS K w m H S) (r : RelE K w m H a x) (e : tru a S = some k) : TruV K x H k := by
  cases a with
  | tmp o =>
    obtain ⟨p, rfl, h, _⟩ := r
    exact tru_o h e
  | val v =>
    cases r with
    | non => cases e; rfl
    | bl b => cases e; rfl
    | int i =>
      cases e
      show decide (i ≠ 0) = (i != 0)
      by_cases h : i = 0
      · subst h; rfl
      · rw [decide_eq_true h]
        exact (bne_iff_ne.mpr h).symm
    | str s h =>
      cases e
      refine ⟨by rw [← SZ_eq]; show s.toArray.size ≤ SZ; simpa using h.2, ?_⟩
      show (!s.isEmpty) = ((s.toArray.size : Int) != 0)
      cases s with
      | nil => rfl
      | cons c t =>
        have : ((List.length (c :: t) : Nat) : Int) ≠ 0 := by rw [List.length_cons]; omega
        simpa using this
    | tup h1 h2 => cases e; exact .inr (.inl ⟨_, h1.sq, by rw [isEmpty_rvl h2]⟩)
    | rol h1 => cases e; exact .inl ⟨_, h1.sq, by simp⟩
    | ref hm =>
      obtain ⟨o, h1, h2⟩ := rs.here hm
      have e' : (some o).bind PO.tru = some k := by rw [← h1]; exact e
      exact tru_o h2 e'
/-- isinstance -/
def Ty.nm : Ty → String
  | .int => "int" | .bool => "bool" | .str => "str" | .tuple => "tuple" | .list => "list" | .dict => "dict"
theorem isi_E (t : Ty) : CallR X (.builtin "isinstance") (fun xs H Q => ∃ (m : MP) (S : Sto) (a : EV) (x : V) (k : Bool), xs = [x, .ty t.nm] ∧ RS X.K X.w m H S ∧ RelE X.K X.w m H a x ∧ isTy a S t = some k ∧ Q (.bl k) H) := by
  intro pins s σ H xs us Q I r ⟨m, S, a, x, k, ex, rs, ea, e, q⟩
  have obj : ∀ {o : PO} {p : Addr}, Ro X.K X.w m H o p → (match o with | .lst _ => some (decide (t = .list)) | .dct _ => some (decide (t = .dict)) | _ => none) = some k → ∃ tv, TyX X.K H (.ref p) tv ∧ PySem.W.kitOne X.K tv (.type t.nm) = some k := by
    intro o p h e
    cases o with
    | lst xs => obtain ⟨vs, h1, _⟩ := h; cases e; exact ⟨_, .base (.lst h1), by cases t <;> exact kit_ty (by decide +kernel)⟩
    | dct kvs => obtain ⟨vs, h1, _⟩ := h; cases e; exact ⟨_, .base (.dK h1), by cases t <;> exact kit_ty (by decide +kernel)⟩
    | set ns => cases e
  have key : ∃ tv, TyX X.K H x tv ∧ PySem.W.kitOne X.K tv (.type t.nm) = some k := by
    cases a with
    | tmp o =>
      obtain ⟨p, rfl, h, _⟩ := ea
      refine obj h ?_
      cases o with
      | lst xs => exact e
      | dct kvs => exact e
      | set ns => exact e
    | val v =>
      cases ea with
      | non => cases e; exact ⟨_, .base .non, by cases t <;> exact kit_ty (by decide +kernel)⟩
      | bl b => cases e; exact ⟨_, .base (.bl b), by cases t <;> exact kit_ty (by decide +kernel)⟩
      | int i => cases e; exact ⟨_, .base (.int i), by cases t <;> exact kit_ty (by decide +kernel)⟩
      | str s h => cases e; exact ⟨_, .base (.str _), by cases t <;> exact kit_ty (by decide +kernel)⟩
      | tup h1 h2 =>
        cases e
        rcases h1 with ⟨o, h1, _⟩ | ⟨o, its, n, h1, h2, _⟩
        · exact ⟨_, .fTuple h1, by cases t <;> exact kit_ty (by decide +kernel)⟩
        · exact ⟨_, .kTuple h1 h2, by cases t <;> exact kit_ty (by decide +kernel)⟩
      | rol h1 => cases e
      | ref hm =>
        obtain ⟨o, h1, h2⟩ := rs.here hm
        refine obj h2 ?_
        have e' := e
        simp only [isTy, h1] at e'
        cases o with
        | lst xs => exact e'
        | dct kvs => exact e'
        | set ns => exact e'
  obtain ⟨tv, h1, h2⟩ := key
  exact call_isi pins s σ H xs us Q I r ⟨x, .ty t.nm, tv, .type t.nm, k, ex, .ty _, h1, h2, q⟩
end
end Mp
end partM5

section partM6
set_option Elab.async false
set_option linter.all false
set_option maxRecDepth 100000
/-! M6: built-in functions, methods, stores. -/
namespace Mp
open PySem PySem.Spec PyProof.Rows L2
section
variable {X : Cx}
/-- tuple(xs), the new tuple known -/
theorem tuple_ofF : CallR X (.type "tuple") (fun xs H Q => ∃ p ys, xs = [.ref p] ∧ SqL X.K H p ys ∧ ∀ (l : Addr) (o : Obj), H l = none → o.dict = none → Q (.ref l) (upd H l (.frz o (.tup ys)))) := by
  intro pins s σ H xs us Q I r ⟨p, ys, ex, hq, q⟩
  subst ex
  obtain ⟨u, eu, rx⟩ := vals1 r
  subst eu
  cases rx
  obtain ⟨its, r', pl, hz⟩ := I.list hq
  have hlen := r'.length
  refine call_tuple_list pl.isList (fun h' kp => ?_) (by simp only [List.size_toArray] <;> omega)
  have I1 : Inv X pins σ H { s with heap := h' } := I.kept (t' := s.toks) kp
  have I2 : Inv X pins σ (upd H h'.objs.size (.frz { cls := .type "tuple", data := .seq its.toArray } (.tup ys))) { s with heap := h'.push { cls := .type "tuple", data := .seq its.toArray } } :=
    I1.laid (t' := s.toks) (fun b o e => Heap.get?_push_of_some _ e) (Nat.le_refl _) ⟨Heap.get?_push_size _ rfl, hz, its, r', IsTup.new _ _⟩
  exact ⟨.ref h'.objs.size, _, I2, rfl, q _ _ (I1.hok.fresh (Nat.le_refl _)) rfl⟩
theorem b_len : CallR X (.builtin "len") (rA X.K X.w (bltE .len)) := by
  intro pins s σ H xs us Q I r ⟨m, S, as, v, rs, ra, e, q⟩
  obtain ⟨a, rfl, e1⟩ := one_some (f := bLen S) e
  obtain ⟨x, rfl, ea⟩ := ra.one
  replace e := e1
  clear e1
  unfold bLen at e
  split at e
  · rename_i z
    cases e
    cases ea with
    | str _ h =>
    refine call_len_str pins s σ H _ us Q I r ⟨_, rfl, ?_, ?_⟩
    · rw [← SZ_eq]; show z.toArray.size ≤ SZ; simpa using h.2
    · have := q (.int z.length) H (Same.refl H) (Rv.int _) trivial
      show Q (.int ((z.toArray.size : Nat) : Int)) H
      simpa using this
  · split at e
    · rename_i xs e1
      cases e
      obtain ⟨p, vs, rfl, hs, r1⟩ := itT_ok rs ea e1
      refine call_len_seq pins s σ H _ us Q I r ⟨p, vs, rfl, hs, ?_⟩
      rw [← r1.length]
      exact q _ H (Same.refl H) (Rv.int _) trivial
    · obtain ⟨kvs, e2, rfl⟩ := Option.map_eq_some_iff.mp e
      obtain ⟨p, ws, rfl, hp, r1⟩ := itD_ok rs ea e2
      refine call_lenD pins s σ H _ us Q I r ⟨p, ws, rfl, hp, ?_⟩
      have hl : kvs.length = ws.length := by
        clear e e2 hp q
        induction r1 with
        | nil => rfl
        | cons _ _ _ ih => exact congrArg (· + 1) ih
      rw [← hl]
      exact q _ H (Same.refl H) (Rv.int _) trivial
theorem b_tuple : CallR X (.type "tuple") (rA X.K X.w (bltE .tuple)) := by
  intro pins s σ H xs us Q I r ⟨m, S, as, v, rs, ra, e, q⟩
  obtain ⟨a, rfl, e1⟩ := one_some (f := bTuple S) e
  obtain ⟨x, rfl, ea⟩ := ra.one
  replace e := e1
  clear e1
  unfold bTuple at e
  split at e
  · cases e
    have ea' := ea
    cases ea with
    | tup h1 r1 =>
    exact call_tupleT pins s σ H _ us Q I r ⟨_, _, rfl, h1.sq, q _ H (Same.refl H) ea' trivial⟩
  · obtain ⟨ys, e2, rfl⟩ := Option.map_eq_some_iff.mp e
    obtain ⟨p, vs, rfl, hp, r1⟩ := itL_ok rs ea e2
    exact tuple_ofF pins s σ H _ us Q I r ⟨p, vs, rfl, SqL.of hp, fun l o nl d => q _ _ (same_upd nl) (new_tup nl d r1) trivial⟩
theorem b_list : CallR X (.type "list") (rA X.K X.w (bltE .list)) := by
  intro pins s σ H xs us Q I r ⟨m, S, as, v, rs, ra, e, q⟩
  obtain ⟨a, rfl, e1⟩ := one_some (f := bList S) e
  obtain ⟨x, rfl, ea⟩ := ra.one
  replace e := e1
  clear e1
  unfold bList at e
  obtain ⟨ys, e2, rfl⟩ := Option.map_eq_some_iff.mp e
  obtain ⟨p, vs, rfl, hp, r1⟩ := itT_ok rs ea e2
  exact call_list_of pins s σ H _ us Q I r ⟨p, vs, rfl, hp, fun l nl => q _ _ (same_upd nl) (new_lst rs nl r1) (fr_new nl)⟩
theorem b_int : CallR X (.type "int") (rA X.K X.w (bltE .int)) := by
  intro pins s σ H xs us Q I r ⟨m, S, as, v, rs, ra, e, q⟩
  obtain ⟨a, rfl, e1⟩ := one_some (f := bInt) e
  obtain ⟨x, rfl, ea⟩ := ra.one
  replace e := e1
  clear e1
  unfold bInt at e
  split at e
  · cases e
    cases ea
    exact call_int1 pins s σ H _ us Q I r (.inl ⟨_, rfl, q _ H (Same.refl H) (Rv.int _) trivial⟩)
  · cases e
    cases ea
    exact call_int1 pins s σ H _ us Q I r (.inr ⟨_, rfl, q _ H (Same.refl H) (Rv.int _) trivial⟩)
  · cases e
theorem b_abs : CallR X (.builtin "abs") (rA X.K X.w (bltE .abs)) := by
  intro pins s σ H xs us Q I r ⟨m, S, as, v, rs, ra, e, q⟩
  obtain ⟨a, rfl, e1⟩ := one_some (f := bAbs) e
  obtain ⟨x, rfl, ea⟩ := ra.one
  replace e := e1
  clear e1
  unfold bAbs at e
  split at e
  · rename_i i
    cases e
    cases ea
    refine call_abs pins s σ H _ us Q I r ⟨_, rfl, ?_⟩
    have h := q _ H (Same.refl H) (Rv.int _) trivial
    have : (if i < 0 then -i else i) = (i.natAbs : Int) := by split <;> omega
    rw [this]
    exact h
  · cases e
theorem b_min (hc : X.calm = true) : CallR X (.builtin "min") (rA X.K X.w (bltE .min)) := by
  intro pins s σ H xs us Q I r ⟨m, S, as, v, rs, ra, e, q⟩
  obtain ⟨a, b, rfl, e1⟩ := two_some (f := bMin) e
  obtain ⟨x, y, rfl, ea, eb⟩ := ra.two
  replace e := e1
  clear e1
  unfold bMin at e
  split at e
  · rename_i i j
    cases e
    cases ea
    cases eb
    refine call_min2 hc pins s σ H _ us Q I r ⟨_, _, rfl, ?_⟩
    have h := q _ H (Same.refl H) (Rv.int _) trivial
    have : (if j < i then j else i) = min i j := by split <;> omega
    rw [this]
    exact h
  · cases e
theorem b_max (hc : X.calm = true) : CallR X (.builtin "max") (rA X.K X.w (bltE .max)) := by
  intro pins s σ H xs us Q I r ⟨m, S, as, v, rs, ra, e, q⟩
  obtain ⟨a, b, rfl, e1⟩ := two_some (f := bMax) e
  obtain ⟨x, y, rfl, ea, eb⟩ := ra.two
  replace e := e1
  clear e1
  unfold bMax at e
  split at e
  · rename_i i j
    cases e
    cases ea
    cases eb
    refine call_max2 hc pins s σ H _ us Q I r ⟨_, _, rfl, ?_⟩
    have h := q _ H (Same.refl H) (Rv.int _) trivial
    have : (if j > i then j else i) = max i j := by split <;> omega
    rw [this]
    exact h
  · cases e
end
/-! #### writing -/
section
variable {K : PySem.W.Frag} {w : World} {m : MP} {H : Hp} {S : Sto} {G : Grd}
/-- a place of the store is written -/
theorem RS.put {l : Nat} {a : Addr} {o : PO} {u : HO} (rs : RS K w m H S) (e : m l = some a) (g : G.ok l = true) (r : Ro K w m (upd H a u) o a) (nt : ∀ vs, H a ≠ some (.tup vs)) (nf : ∀ ob x, H a ≠ some (.frz ob x)) :
    RS K w m (upd H a u) (S.set l o) ∧ Fr G m H m (upd H a u) := by
  have ot : ∀ b x, H b = some x → b ≠ a → upd H a u b = some x := fun b x q n => by rw [upd_ne n]; exact q
  have tk : ∀ {b : Addr} {vs : List V}, TupA K H b vs → TupA K (upd H a u) b vs := fun {b vs} h => by
    rcases h with ⟨ob, h, d⟩ | h
    · exact .inl ⟨ob, ot _ _ h fun z => nf ob _ (by rw [← z]; exact h), d⟩
    · exact .inr h
  have sk : ∀ {b : Addr} {vs : List V}, SqR K H b vs → SqR K (upd H a u) b vs := fun {b vs} h => by
    rcases h with ⟨ob, h⟩ | h
    · exact .inl ⟨ob, ot _ _ h fun z => nf ob _ (by rw [← z]; exact h)⟩
    · exact .inr h
  have hl : l < S.length := rs.dom l a e
  refine ⟨⟨fun l' o' q => ?_, rs.inj, fun l' b q => by rw [List.length_set]; exact rs.dom l' b q⟩, ⟨fun _ _ h => h, fun b x q n => ⟨ot b x q fun z => n l (by rw [z]; exact e), n⟩, fun l' b q k => ?_⟩⟩
  · by_cases hll : l' = l
    · subst hll
      rw [List.getElem?_set_self hl] at q
      cases q
      exact ⟨a, e, r⟩
    · rw [List.getElem?_set_ne (Ne.symm hll)] at q
      obtain ⟨b, h1, h2⟩ := rs.obj l' o' q
      refine ⟨b, h1, ?_⟩
      have nb : b ≠ a := fun z => hll (rs.inj _ _ a (by rw [← z]; exact h1) e)
      have rl : ∀ {xs : List PV} {vs : List V}, RvL K m H xs vs → RvL K m (upd H a u) xs vs := fun {xs vs} h => rvl_keep (fun {b vs} => tk) (fun {b vs} => sk) h
      cases o' with
      | lst xs => obtain ⟨vs, q1, q2⟩ := h2; exact ⟨vs, ot _ _ q1 nb, rl q2⟩
      | dct kvs => obtain ⟨vs, q1, q2⟩ := h2; exact ⟨vs, ot _ _ q1 nb, rkl_keep (fun {b vs} => tk) (fun {b vs} => sk) q2⟩
      | set ns => exact ⟨ot _ _ h2.1 nb, h2.2⟩
  · by_cases hll : l' = l
    · subst hll; rw [g] at k; cases k
    · rw [upd_ne fun z => hll (rs.inj _ _ b q (by rw [z]; exact e))]
where
  rv_keep {H H' : Hp} (tk : ∀ {b : Addr} {vs : List V}, TupA K H b vs → TupA K H' b vs) (sk : ∀ {b : Addr} {vs : List V}, SqR K H b vs → SqR K H' b vs) : ∀ {x : PV} {v : V}, Rv K m H x v → Rv K m H' x v
    | _, _, .non => .non
    | _, _, .bl b => .bl b
    | _, _, .int i => .int i
    | _, _, .str s h => .str s h
    | _, _, .tup h r => .tup (tk h) (rvl_keep tk sk r)
    | _, _, .ref h => .ref h
    | _, _, .rol h => .rol (sk h)
  rvl_keep {H H' : Hp} (tk : ∀ {b : Addr} {vs : List V}, TupA K H b vs → TupA K H' b vs) (sk : ∀ {b : Addr} {vs : List V}, SqR K H b vs → SqR K H' b vs) : ∀ {xs : List PV} {vs : List V}, RvL K m H xs vs → RvL K m H' xs vs
    | _, _, .nil => .nil
    | _, _, .cons r t => .cons (rv_keep tk sk r) (rvl_keep tk sk t)
  rkl_keep {H H' : Hp} (tk : ∀ {b : Addr} {vs : List V}, TupA K H b vs → TupA K H' b vs) (sk : ∀ {b : Addr} {vs : List V}, SqR K H b vs → SqR K H' b vs) : ∀ {xs : List (PK × PV)} {vs : List (Key × V)}, RkL K m H xs vs → RkL K m H' xs vs
    | _, _, .nil => .nil
    | _, _, .cons k r t => .cons k (rv_keep tk sk r) (rkl_keep tk sk t)
end
end Mp
end partM6

section partM6b
set_option Elab.async false
set_option linter.all false
set_option maxRecDepth 100000
/-! M6b: methods, stores. -/
namespace Mp
open PySem PySem.Spec PyProof.Rows L2
section
variable {K : PySem.W.Frag} {w : World} {m : MP} {H : Hp} {S : Sto} {G : Grd}
theorem TupA.upd {a b : Addr} {u : HO} {vs : List V} (n : ∀ ob x, H a ≠ some (.frz ob x)) (h : TupA K H b vs) : TupA K (upd H a u) b vs := by
  rcases h with ⟨ob, h, d⟩ | h
  · exact .inl ⟨ob, (by rw [upd_ne (fun z => n ob _ (by rw [← z]; exact h))]; exact h), d⟩
  · exact .inr h
theorem SqR.upd {a b : Addr} {u : HO} {vs : List V} (n : ∀ ob x, H a ≠ some (.frz ob x)) (h : SqR K H b vs) : SqR K (L2.upd H a u) b vs := by
  rcases h with ⟨ob, h⟩ | h
  · exact .inl ⟨ob, (by rw [upd_ne (fun z => n ob _ (by rw [← z]; exact h))]; exact h)⟩
  · exact .inr h
/-- a list of the store is written -/
theorem putL_ok {l : Nat} {a : Addr} {vs vs' : List V} {xs' : List PV} {S' : Sto} (rs : RS K w m H S) (e : m l = some a) (h : H a = some (.lst vs)) (p : put G l (.lst xs') S = some S') (r : RvL K m H xs' vs') :
    RS K w m (upd H a (.lst vs')) S' ∧ Fr G m H m (upd H a (.lst vs')) := by
  unfold put at p
  split at p
  · rename_i g
    cases p
    have nf : ∀ ob x, H a ≠ some (.frz ob x) := fun ob x z => by rw [h] at z; cases z
    exact rs.put e g ⟨vs', upd_same, RS.put.rvl_keep (fun t => t.upd nf) (fun t => t.upd nf) r⟩ (fun vs z => by rw [h] at z; cases z) nf
  · cases p
theorem putK_ok {k : PK} {q : Key} {x : PV} {v : V} (rk : kRel k q) (rv : Rv K m H x v) {kvs : List (PK × PV)} {ws : List (Key × V)} (r : RkL K m H kvs ws) : RkL K m H (dPut kvs k x) (putK ws q v) := by
  have hany : ∀ {kvs : List (PK × PV)} {ws : List (Key × V)}, RkL K m H kvs ws → (kvs.any fun p => decide (p.1 = k)) = ws.any fun p => decide (p.1 = q) := by
    intro kvs ws r
    induction r with
    | nil => rfl
    | cons r1 r2 t ih =>
      rw [List.any_cons, List.any_cons, ih]
      dsimp only
      rw [kRel_eq r1 rk]
  have hmap : ∀ {kvs : List (PK × PV)} {ws : List (Key × V)}, RkL K m H kvs ws → RkL K m H (kvs.map fun p => if p.1 = k then (p.1, x) else p) (ws.map fun p => if p.1 = q then (p.1, v) else p) := by
    intro kvs ws r
    induction r with
    | nil => exact .nil
    | @cons k1 x1 q1 v1 xs vs r1 r2 t ih =>
      rw [List.map_cons, List.map_cons]
      have hd := kRel_eq r1 rk
      by_cases hk : k1 = k
      · have hq : q1 = q := by
          rw [decide_eq_true hk] at hd
          exact of_decide_eq_true hd
        rw [if_pos hk, if_pos hq]
        exact .cons r1 rv ih
      · have hq : ¬ q1 = q := by
          rw [decide_eq_false hk] at hd
          exact of_decide_eq_false hd
        rw [if_neg hk, if_neg hq]
        exact .cons r1 r2 ih
  have happ : ∀ {kvs : List (PK × PV)} {ws : List (Key × V)}, RkL K m H kvs ws → RkL K m H (kvs ++ [(k, x)]) (ws ++ [(q, v)]) := by
    intro kvs ws r
    induction r with
    | nil => exact .cons rk rv .nil
    | cons r1 r2 t ih => exact .cons r1 r2 ih
  unfold dPut putK
  rw [← hany r]
  split
  · exact hmap r
  · exact happ r
theorem rkl_len : ∀ {kvs : List (PK × PV)} {ws : List (Key × V)}, RkL K m H kvs ws → kvs.length = ws.length
  | _, _, .nil => rfl
  | _, _, .cons _ _ t => congrArg (· + 1) (rkl_len t)
end
/-- a method's reading -/
def rM (K : PySem.W.Frag) (w : World) (mt : Mth) : V → List V → Hp → VK → Prop := fun x xs H Q => ∃ (G : Grd) (m : MP) (S : Sto) (o : EV) (as : List PV) (v : EV) (S' : Sto), RS K w m H S ∧ RelE K w m H o x ∧ RvL K m H as xs ∧ mthE G mt o as S = .ok v S' ∧
  ∀ V' H', Fr G m H m H' → RS K w m H' S' → RelE K w m H' v V' → FrE H v V' → Q V' H'
section
variable {X : Cx}
theorem rm_list {K : PySem.W.Frag} {w : World} {mt : Mth} {m : MP} {H : Hp} {S S' : Sto} {G : Grd} {o : EV} {x : V} {as : List PV} {v : EV} (hm : mt ≠ .index) (rs : RS K w m H S) (ro : RelE K w m H o x) (e : mthE G mt o as S = .ok v S') :
    ∃ l a xs vs z xs', o = .val (.ref l) ∧ x = .ref a ∧ m l = some a ∧ H a = some (.lst vs) ∧ RvL K m H xs vs ∧ mthL mt xs as = some (z, xs') ∧ put G l (.lst xs') S = some S' ∧ v = .val z := by
  have e1 : (match o with
    | .val (.ref l) => match S[l]? with
      | some (.lst xs) => match mthL mt xs as with
        | some (v, xs') => match put G l (.lst xs') S with
          | some S' => R.ok (EV.val v) S'
          | none => .err
        | none => .err
      | _ => .err
    | _ => .err) = .ok v S' := by
    cases mt with
    | index => exact absurd rfl hm
    | append => exact e
    | pop => exact e
    | insert => exact e
  clear e
  split at e1
  · rename_i l
    cases ro with
    | ref hl =>
    obtain ⟨ob, h1, h2⟩ := rs.here hl
    split at e1
    · rename_i xs h3
      rw [h1] at h3
      cases h3
      obtain ⟨vs, q1, q2⟩ := h2
      split at e1
      · rename_i z xs' e2
        split at e1
        · rename_i S2 e3
          cases e1
          exact ⟨l, _, xs, vs, z, xs', rfl, rfl, hl, q1, q2, e2, e3, rfl⟩
        · cases e1
      · cases e1
    · cases e1
  · cases e1
theorem mt_app : MtR X "list.append" (rM X.K X.w .append) := by
  intro pins s σ H x xs v us Q I rx rxs ⟨G, m, S, o, as, r, S', rs, ro, ra, e, q⟩
  obtain ⟨l, a, ys, vs, z, ys', rfl, rfl, hl, ha, ry, e1, e2, rfl⟩ := rm_list (by decide) rs ro e
  unfold mthL at e1
  split at e1
  · rename_i v1
    split at e1
    · rename_i hz
      cases e1
      cases ra with
      | cons r1 t =>
      cases t
      have hp := putL_ok rs hl ha e2 (ry.append (.cons r1 .nil))
      refine mt_append pins s σ H _ _ v us Q I rx rxs ⟨a, vs, _, rfl, rfl, ha, ?_, q _ _ hp.2 hp.1 .non trivial⟩
      rw [← SZ_eq, ← ry.length]
      exact hz
    · cases e1
  all_goals first
    | cases e1
    | (rename_i h; cases h)
theorem mt_pp : MtR X "list.pop" (rM X.K X.w .pop) := by
  intro pins s σ H x xs v us Q I rx rxs ⟨G, m, S, o, as, r, S', rs, ro, ra, e, q⟩
  obtain ⟨l, a, ys, vs, z, ys', rfl, rfl, hl, ha, ry, e1, e2, rfl⟩ := rm_list (by decide) rs ro e
  have key : as = [] ∧ ∃ v1, ys.getLast? = some v1 ∧ z = v1 ∧ ys' = ys.dropLast := by
    unfold mthL at e1
    split at e1
    all_goals first
      | (rename_i h; cases h; done)
      | skip
    · split at e1
      · rename_i v1 h1
        cases e1
        exact ⟨rfl, _, h1, rfl, rfl⟩
      · cases e1
    · cases e1
  obtain ⟨rfl, v1, h1, rfl, rfl⟩ := key
  cases ra
  rw [List.getLast?_eq_getElem?] at h1
  obtain ⟨u1, h2, h3⟩ := ry.get h1
  have hd : RvL X.K m H ys.dropLast vs.dropLast := by
    rw [List.dropLast_eq_take, List.dropLast_eq_take, ry.length]
    exact ry.take _
  have hp := putL_ok rs hl ha e2 hd
  refine mt_pop pins s σ H _ _ v us Q I rx rxs ⟨a, vs, u1, rfl, rfl, ha, by rw [← ry.length]; exact h2, q _ _ hp.2 hp.1 (Rv.fr hp.2 rs h3) trivial⟩
theorem mt_ins : MtR X "list.insert" (rM X.K X.w .insert) := by
  intro pins s σ H x xs v us Q I rx rxs ⟨G, m, S, o, as, r, S', rs, ro, ra, e, q⟩
  obtain ⟨l, a, ys, vs, z, ys', rfl, rfl, hl, ha, ry, e1, e2, rfl⟩ := rm_list (by decide) rs ro e
  have key : ∃ i v1, as = [.int i, v1] ∧ 0 ≤ i ∧ i < 2 ^ 63 ∧ ys.length < SZ ∧ z = .non ∧ ys' = ys.take i.toNat ++ [v1] ++ ys.drop i.toNat := by
    unfold mthL at e1
    split at e1
    all_goals first
      | (rename_i h; cases h; done)
      | skip
    · split at e1
      · rename_i h1
        cases e1
        exact ⟨_, _, rfl, h1.1, h1.2.1, h1.2.2, rfl, rfl⟩
      · cases e1
    · cases e1
  obtain ⟨i, v1, rfl, h0, h63, hz, rfl, rfl⟩ := key
  cases ra with
  | cons ri t =>
  cases ri
  cases t with
  | cons r1 t =>
  cases t
  have hp := putL_ok rs hl ha e2 (((ry.take i.toNat).append (.cons r1 .nil)).append (ry.drop i.toNat))
  refine mt_insert pins s σ H _ _ v us Q I rx rxs ⟨a, vs, i, _, rfl, rfl, ha, ?_, h0, h63, q _ _ hp.2 hp.1 .non trivial⟩
  rw [← SZ_eq, ← ry.length]
  exact hz
theorem mt_ext : MtR X "list.extend" (fun x xs H Q => ∃ (G : Grd) (m : MP) (S : Sto) (o a : EV) (y : V) (v : EV) (S' : Sto), xs = [y] ∧ RS X.K X.w m H S ∧ RelE X.K X.w m H o x ∧ RelE X.K X.w m H a y ∧ extE G o a S = .ok v S' ∧
    ∀ V' H', Fr G m H m H' → RS X.K X.w m H' S' → RelE X.K X.w m H' v V' → FrE H v V' → Q V' H') := by
  intro pins s σ H x xs v us Q I rx rxs ⟨G, m, S, o, a, y, r, S', ex, rs, ro, ra, e, q⟩
  subst ex
  unfold extE at e
  split at e
  · rename_i l
    cases ro with
    | ref hl =>
    obtain ⟨ob, h1, h2⟩ := rs.here hl
    split at e
    · rename_i xs h3
      rw [h1] at h3
      cases h3
      obtain ⟨vs, q1, q2⟩ := h2
      split at e
      · rename_i ys e1
        split at e
        · rename_i hz
          split at e
          · rename_i S2 e2
            cases e
            obtain ⟨p, us', rfl, hp, r1⟩ := itL_ok rs ra e1
            have hw := putL_ok rs hl q1 e2 (q2.append r1)
            refine mt_extend pins s σ H _ _ v us Q I rx rxs ⟨_, p, vs, us', rfl, rfl, q1, hp, ?_, q _ _ hw.2 hw.1 .non trivial⟩
            rw [← SZ_eq, ← q2.length, ← r1.length]
            exact hz
          · cases e
        · cases e
      · cases e
    · cases e
  · cases e
/-- o[i] = v -/
theorem set_E (hu : X.A.units + 1 < cLine) : PSet X (fun o i v H Q => ∃ (G : Grd) (m : MP) (S : Sto) (x y z : PV) (S' : Sto), RS X.K X.w m H S ∧ Rv X.K m H x o ∧ Rv X.K m H y i ∧ Rv X.K m H z v ∧ putE G x y z S = some S' ∧
    ∀ H', Fr G m H m H' → RS X.K X.w m H' S' → Q H') := by
  intro pins s σ H o i v ov iv u Q I ro ri rv ⟨G, m, S, x, y, z, S', rs, hx, hy, hz, e, q⟩
  unfold putE at e
  split at e
  · rename_i l
    cases hx with
    | ref hl =>
    obtain ⟨ob, h1, h2⟩ := rs.here hl
    split at e
    · rename_i xs h3
      rw [h1] at h3
      cases h3
      obtain ⟨vs, q1, q2⟩ := h2
      split at e
      · rename_i k
        cases hy
        split at e
        · rename_i j hj
          have hp := putL_ok rs hl q1 e (RvL.set hz j q2)
          exact set_list pins s σ H _ _ _ ov iv u Q I ro ri rv ⟨_, vs, k, j, rfl, rfl, q1, by rw [← q2.length]; exact hj, q _ hp.2 hp.1⟩
        · cases e
      · cases e
    · rename_i kvs h3
      rw [h1] at h3
      cases h3
      obtain ⟨ws, q1, q2⟩ := h2
      split at e
      · rename_i k hk
        obtain ⟨key, rk, rfl⟩ := kRel_pv hk hy
        split at e
        · rename_i hn
          unfold put at e
          split at e
          · rename_i g
            cases e
            have nf : ∀ ob x, H _ ≠ some (.frz ob x) := fun ob x z => by rw [q1] at z; cases z
            have hp := rs.put hl g (o := .dct (dPut kvs k z)) (u := .dK (putK ws key v)) ⟨_, upd_same, RS.put.rkl_keep (fun t => t.upd nf) (fun t => t.upd nf) (putK_ok rk hz q2)⟩ (fun vs z => by rw [q1] at z; cases z) nf
            exact set_dict hu pins s σ H _ _ _ ov iv u Q I ro ri rv ⟨_, _, rfl, DPut.k q1 (by rw [← SZ_eq, ← rkl_len q2]; exact hn), q _ hp.2 hp.1⟩
          · cases e
        · cases e
      · cases e
    · cases e
  · cases e
end
end Mp
end partM6b

section partM6c
set_option Elab.async false
set_option linter.all false
set_option maxRecDepth 100000
/-! M6c: sorted, set. -/
namespace Mp
open PySem PySem.Spec PyProof.Rows L2
section
variable {P : Program} {w : World} {A : Around} {E : Value → Shared → Prop} {s : Shared}
/-- the object of a set just made -/
abbrev set0 (w : World) : Obj := { cls := .type "set", dict := none, data := .set #[] 0 (.fresh 0 0 (!w.params.followText "set-order")) }
set_option maxHeartbeats 3200000 in
/-- set(l), l a list of ints -/
theorem set_of_list {l : Addr} {its : Array Value} (ns : List Int) {Q : Value → Shared → Prop} (hA : A.handled = none) (hL : s.heap.IsList l its) (hI : IntsAre its.toList ns) (few : ns.length + 1 < scanBound)
    (fin : ∀ (h' : Heap) (tk c : Nat), SetR w h' s.heap.objs.size (fun j => decide (j ∈ ns)) c → c ≤ ns.length → (∀ b o, s.heap.get? b = some o → h'.get? b = some o) → Q (.ref s.heap.objs.size) { s with heap := h', toks := tk }) :
    wpAny (model P w) A (call (.type "set") [.ref l]) Q E s := by
  have size_is : its.size = ns.length := by
    have z := IntsAre.length hI
    rwa [Array.length_toList] at z
  obtain ⟨k0, k1, k2⟩ := F.called_set.mro
  have m1 := F.called_set.made
  have m2 := F.called_set.sub
  have m3 := F.called_set.notType
  have m4 := F.called_set.canCreate
  have m5 := F.typeCall_set_1 (.ref l)
  refine wpAny_call (codeAny_of_tree ?_)
  show wpAny _ _ (callAny (.type "set") _) _ _ _
  refine wpAny_pure ⟨Code.quiet_builtin _ (by decide +kernel), codeAny_builtin F.entry_type_call ?_⟩
  rw [Around.under_plain (weight_type_call_type "set" [.ref l] []) rfl]
  repeat (any_goals (first | assumption | wp_step))
  refine codeAny_mono (code_set_led1 (.ref l) (E := E) (Q₁ := fun ob t => ob = .ref s.heap.objs.size ∧ t = { s with heap := s.heap.push (set0 w) }) ⟨rfl, rfl⟩) fun r t ht => ?_
  cases r with
  | error x => exact ht
  | ok fl =>
    cases fl with
    | ret ob =>
      obtain ⟨rfl, rfl⟩ := ht
      have at0 : (s.heap.push (set0 w)).get? s.heap.objs.size = some (set0 w) := Heap.get?_push_size _ rfl
      have ty0 : Shared.TypeIs { s with heap := s.heap.push (set0 w) } (.ref s.heap.objs.size) "set" := ⟨_, at0, rfl⟩
      have i1 := F.called_set.init.lookup
      have i2 := F.called_set.init.bind (.ref s.heap.objs.size)
      repeat (any_goals (first | assumption | wp_step))
      refine codeAny_mono (codeAny_call_builtin (R := wants (fun r t => r = .none ∧ ∃ h' tk c, t = { s with heap := h', toks := tk } ∧ SetR w h' s.heap.objs.size (fun j => decide (j ∈ ns)) c ∧ c ≤ ns.length ∧
        (∀ b o, s.heap.get? b = some o → h'.get? b = some o)) E) F.called_set.init.plain F.entry_set_init (check_set_init_1 ty0 ?_)) fun r2 t2 ht2 => ?_
      · obtain ⟨ol, getL, cl, nl, dl⟩ := hL
        obtain ⟨ocls, odict, odata, oslots⟩ := ol
        simp only at cl dl
        subst cl; subst dl
        have getL' : (s.heap.push (set0 w)).get? l = some { cls := .type "list", dict := odict, data := .seq its nl, slots := oslots } := Heap.get?_push_of_some _ getL
        have j1 := F.sub_list_set
        have j2 := F.sub_list_frozenset
        have j3 : (Value.type "list" == Value.type "dict") = false := by decide
        have isL : (s.heap.push (set0 w)).IsList l its := ⟨_, getL', rfl, nl, rfl⟩
        unfold Builtin.«set.__init__» noKeywords Builtin.Frozenset.updateFrom
        generalize hPI : pyIter = PI
        wp_walk
        subst hPI
        refine wpAny_pyIter_list isL ?_
        refine wpAny_bind (wpAny_runValue ?_)
        have lt0 : l < s.heap.objs.size := Heap.lt_size getL
        have hA3 : A.in1.in1.in1.handled = none := by simp [hA]
        have sz1 : (s.heap.push (set0 w)).objs.size = s.heap.objs.size + 1 := Heap.size_push ..
        have neI : l ≠ (s.heap.push (set0 w)).objs.size := by
          rw [sz1]; exact Nat.ne_of_lt (Nat.lt_succ_of_lt lt0)
        have notin : s.heap.objs.size ∉ [(s.heap.push (set0 w)).objs.size, l] := by
          rw [sz1]; simp only [List.mem_cons, List.mem_singleton, List.not_mem_nil, or_false, not_or]
          exact ⟨Nat.ne_of_lt (Nat.lt_succ_self _), Nat.ne_of_gt lt0⟩
        have vals : ∀ (i : Nat) (v : Value), its[i]? = some v → ∃ k t, ns[i]? = some k ∧ v = .int k t := fun i v hv => by
          have hi : i < ns.length := by rw [← size_is]; exact (Array.getElem?_eq_some_iff.mp hv).1
          obtain ⟨t, e⟩ := PyProof.Rows.IntsAre.int_at hI i v (by rw [Array.getElem?_toList]; exact hv)
          refine ⟨ns[i], t, List.getElem?_eq_getElem hi, ?_⟩
          rw [e, List.getD_eq_getElem?_getD, List.getElem?_eq_getElem hi] <;> rfl
        refine set_update_ints ((Walks.list hA3 _ l neI its).toS) s.heap.objs.size notin ns size_is few vals (its.size - 0) 0 _ (by omega) (Nat.zero_le _) ⟨⟨_, Heap.get?_push_size _ rfl, rfl, rfl⟩, (isL.push _)⟩ ?hS0 ?hR
        case hS0 => exact ⟨0, Nat.le_refl 0, setR_new_at (Heap.get?_push_of_some _ at0)⟩
        case hR =>
          intro t3 c3 mv le3 R3
          obtain ⟨h3, g3, d3, tk3, os3⟩ := t3
          obtain rfl : g3 = s.gens := mv.gens
          obtain rfl : d3 = s.drawn := mv.drawn
          obtain rfl : os3 = s.os := mv.os
          show wpAny _ _ _ _ _ _
          refine wpAny_pure ?_
          show wpAny _ _ (ret Value.none) _ _ _
          rw [size_is] at le3
          refine wpAny_pure ⟨rfl, h3, tk3, c3, rfl, R3, le3, fun b o e => ?_⟩
          have lb : b < s.heap.objs.size := Heap.lt_size e
          refine mv.heap b o ?_ (Heap.get?_push_of_some _ (Heap.get?_push_of_some _ e))
          simp only [List.mem_cons, List.mem_singleton, List.not_mem_nil, or_false, not_or]
          exact ⟨Nat.ne_of_lt lb, by rw [sz1]; exact Nat.ne_of_lt (Nat.lt_succ_of_lt lb)⟩
      · cases r2 with
        | error x => exact ht2
        | ok fl2 =>
          cases fl2 with
          | ret r =>
            obtain ⟨rfl, h', tk, c', rfl, a1, a2, a3⟩ := ht2
            repeat (any_goals (first | assumption | wp_step))
            exact fin _ _ _ a1 a2 a3
          | _ => exact ht2.elim
    | _ => exact ht.elim
end
theorem mem_dedup : ∀ (ns : List Int) (x : Int), x ∈ dedupI ns ↔ x ∈ ns
  | [], x => Iff.rfl
  | i :: r, x => by
    unfold dedupI
    split
    · rename_i h
      rw [mem_dedup r x, List.mem_cons]
      constructor
      · exact .inr
      · rintro (rfl | q)
        · exact h
        · exact q
    · rw [List.mem_cons, List.mem_cons, mem_dedup r x]
theorem nodup_dedup : ∀ ns : List Int, (dedupI ns).Nodup
  | [] => List.nodup_nil
  | i :: r => by
    unfold dedupI
    split
    · exact nodup_dedup r
    · rename_i h
      exact List.nodup_cons.mpr ⟨fun z => h ((mem_dedup r i).mp z), nodup_dedup r⟩
theorem nodup_len {xs ys : List Int} (hx : xs.Nodup) (hy : ys.Nodup) (h : ∀ k, k ∈ xs ↔ k ∈ ys) : xs.Perm ys := (List.perm_ext_iff_of_nodup hx hy).mpr h
/-- a set's size is how many are in it -/
theorem setR_len {w : World} {h : Heap} {a : Addr} {S : Int → Bool} {n : Nat} {ns : List Int} (R : SetR w h a S n) (hn : ns.Nodup) (hs : ∀ k, S k = true ↔ k ∈ ns) : n = ns.length := by
  obtain ⟨o, es, ep, t, h1, h2, h3, h4, h5, h6, h7, h8, h9, _⟩ := R
  rw [← h9, ← (nodup_len h5 hn fun k => (h6 k).symm.trans (hs k)).length_eq, List.length_map, Array.length_toList]
section
variable {X : Cx}
theorem b_set (hc : X.calm = true) : CallR X (.type "set") (rA X.K X.w (bltE .set)) := by
  intro pins s σ H xs us Q I r ⟨m, S, as, v, rs, ra, e, q⟩
  obtain ⟨a, rfl, e1⟩ := one_some (f := bSet S) e
  clear e
  obtain ⟨x, rfl, ea⟩ := ra.one
  unfold bSet at e1
  split at e1
  · rename_i ys h1
    split at e1
    · rename_i ns h2
      split at e1
      · rename_i h60
        cases e1
        obtain ⟨p, vs, rfl, hp, rl⟩ := itL_ok rs ea h1
        obtain rfl := allInts_map h2
        obtain rfl := rvl_ints rl
        rw [Vals.ref1 r]
        obtain ⟨its, rv, pl, hz⟩ := I.list (SqL.of hp)
        refine set_of_list ns (I.ok.hd hc) pl.isList (by simpa using rv.ints) (Nat.lt_of_le_of_lt (show ns.length + 1 ≤ 61 by omega) (by decide)) fun h' tk c R hle keep => ?_
        have hd : ∀ k, decide (k ∈ ns) = true ↔ k ∈ dedupI ns := fun k => by rw [decide_eq_true_iff, mem_dedup]
        have hl : c = (dedupI ns).length := setR_len R (nodup_dedup ns) hd
        have R' : SetR X.w h' s.heap.objs.size (fun j => decide (j ∈ dedupI ns)) (dedupI ns).length := by
          rw [← hl]
          exact R.congr fun k => by rw [decide_eq_decide]; exact mem_dedup ns k
        have nf : H s.heap.objs.size = none := I.hok.fresh (Nat.le_refl _)
        refine ⟨.ref s.heap.objs.size, upd H s.heap.objs.size (SetO X.w s.heap.objs.size (fun j => decide (j ∈ dedupI ns)) (dedupI ns).length), I.laid (t' := tk) keep (Nat.le_refl _) (setO_new R'), rfl, q _ _ (same_upd nf) ?_ (fr_new nf)⟩
        exact ⟨_, rfl, ⟨upd_same, nodup_dedup ns⟩, rs.free nf⟩
      · cases e1
    · cases e1
  · cases e1
theorem itS_ok {K : PySem.W.Frag} {w : World} {m : MP} {H : Hp} {S : Sto} {x : EV} {V' : V} {ns : List Int} (rs : RS K w m H S) (r : RelE K w m H x V') (e : itS x S = some ns) :
    ∃ p, V' = .ref p ∧ H p = some (SetO w p (fun j => decide (j ∈ ns)) ns.length) ∧ ns.Nodup := by
  cases x with
  | val v =>
    cases v with
    | ref l =>
      cases r with
      | ref hm =>
        obtain ⟨o, h1, h2⟩ := rs.here hm
        simp only [itS, h1] at e
        cases o with
        | set ys => cases e; exact ⟨_, rfl, h2.1, h2.2⟩
        | _ => cases e
    | _ => cases e
  | tmp o =>
    cases o with
    | set ys =>
      cases e
      obtain ⟨a, rfl, h, _⟩ := r
      exact ⟨_, rfl, h.1, h.2⟩
    | _ => cases e
theorem rkl_keysI {K : PySem.W.Frag} {m : MP} {H : Hp} : ∀ {kvs : List (PK × PV)} {ws : List (Key × V)} {ns : List Int}, RkL K m H kvs ws → (kvs.map fun p => p.1.pv) = ns.map .int → ws.map (·.1) = ns.map Sum.inl
  | _, _, [], .nil, _ => rfl
  | _, _, _ :: _, .nil, e => by cases e
  | _, _, [], .cons _ _ _, e => by cases e
  | _, _, n :: ns, .cons (k := k) rk rv t, e => by
    injection e with e1 e2
    cases k with
    | kS y => cases e1
    | kI i =>
      cases e1
      cases rk
      rw [List.map_cons, List.map_cons, rkl_keysI t e2]
/-- sorted(d), the keys ints, any number of them -/
theorem sorted_dict (hcalm : X.calm = true) : CallR X (.builtin "sorted") (fun xs H Q => ∃ (a : Addr) (kvs : List (Key × V)) (ks : List Int), xs = [.ref a] ∧ Rd H a (.dK kvs) ∧ kvs.map (·.1) = ks.map Sum.inl ∧
    ∀ (ys : List Int) (p : Addr), ys.Perm ks → ys.Pairwise (· ≤ ·) → H p = none → Q (.ref p) (upd H p (.lst (ys.map V.int)))) := by
  rintro pins s σ H xs us Q I r ⟨a, kvs, ks, rfl, hd, hks, q⟩
  obtain ⟨u, rfl, rx⟩ := vals1 r
  cases rx
  obtain ⟨z, lo, vs, rel, dd⟩ := dk_rd I.hok hd
  obtain ⟨ep, hat⟩ := dd.dictAt
  have keys_are : vs.map (·.1) = ks.map Sum.inl := rel.keys.symm.trans hks
  have len_is : vs.length = ks.length := by
    have e := congrArg List.length keys_are
    rwa [List.length_map, List.length_map] at e
  have kvs_len : kvs.length = ks.length := by
    have e := congrArg List.length hks
    rwa [List.length_map, List.length_map] at e
  have line : ks.length ≤ sizeLine := by rw [← kvs_len]; exact z
  refine Calls.call_function_entry PyProof.Rows.kind_sorted PyProof.Rows.plain_sorted PyProof.Rows.entry_sorted (PyProof.Rows.args_sorted1 _) ?_
  unfold Builtin.«sorted»
  refine wpAny_bind (m := checkCount "sorted" 1 1 _) (wpAny_pure ?_)
  refine wpAny_bind (PySem.W.kdu_collect (A := X.A.in1) (PySem.W.kdl_dict (knd := mixKind X.prog X.w) (kvs := vs) (ep := ep) lo) (I.ok.hd hcalm) hat (by rw [len_is]; exact line) fun h' tk acc hk hacc => ?_)
  have accn : acc.toList.length = ks.length := by rw [Array.length_toList, hacc.1, len_is]
  have accI : IntsAre acc.toList ks := ints_each accn fun j v e => by
    obtain ⟨k, x, e1, e2⟩ := hacc.2 j v (by rw [← Array.getElem?_toList]; exact e)
    have e3 : (vs.map (·.1))[j]? = some k := by rw [List.getElem?_map, e1]; rfl
    rw [keys_are, List.getElem?_map] at e3
    obtain ⟨y, e4, rfl⟩ := Option.map_eq_some_iff.mp e3
    rcases keyIs_shape (show keyIs (Sum.inl y) v = true from e2) with ⟨i, t, ek, ev⟩ | ⟨z, t, ek, ev⟩
    · cases ek
      exact ⟨y, t, e4, ev⟩
    · cases ek
  have I1 : Inv X pins σ H { s with heap := h', toks := tk } := I.kept hk
  refine wpAny_bind (wpAny_newList ?_ (by rw [accn]; exact line))
  have oL : (h'.push (seqObj "list" acc.toList.toArray 0)).get? h'.objs.size = some (seqObj "list" acc.toList.toArray 0) := Heap.get?_push_size _ rfl
  show wpAny _ _ _ _ _ { s with heap := h'.push (seqObj "list" acc.toList.toArray 0), toks := tk }
  refine wpAny_bind (wpAny_holding (wpAny_call_entry PyProof.Rows.slot_list_sort ⟨_, oL, rfl⟩ PyProof.Rows.entry_list_sort
    (SrtO.list_sort_ord (s := { s with heap := h'.push (seqObj "list" acc.toList.toArray 0), toks := tk }) SrtO.swo_int oL (by rw [accn]; exact line) (fun h2 => SrtO.ints_sortable accI h2) fun out g1 g2 => ⟨_, rfl, ?_⟩) (PyProof.Rows.args_list_sort _)))
  obtain ⟨k1, k2, k3⟩ := SrtO.ints_out accI g1 g2
  obtain ⟨e', he'⟩ := PyProof.Rows.sortedHeap_at (vs := acc.toList) (out := out.toArray) oL
  have outn : ((out.map SrtO.iv).map V.int).length ≤ sizeLine := by
    rw [List.length_map, k2.length_eq]
    exact line
  refine wpAny_pure ⟨_, rfl, .ref h'.objs.size, upd H h'.objs.size (.lst ((out.map SrtO.iv).map V.int)), I1.laid (t' := tk) (fun b u e => ?_) (Nat.le_refl _)
    (show ObjOk X.prog X.w _ _ _ (.lst ((out.map SrtO.iv).map V.int)) from ⟨outn, out, e', vals_of_ints k1, he'⟩), rfl, q _ _ k2 k3 (I1.hok.fresh (Nat.le_refl _))⟩
  have hb : b < h'.objs.size := Heap.lt_size e
  rw [PyProof.Rows.sortedHeap_old (Nat.ne_of_lt hb) (by rw [size_push']; exact Nat.lt_succ_of_lt hb)]
  exact Heap.get?_push_of_some _ e
theorem b_sorted (hc : X.calm = true) : CallR X (.builtin "sorted") (rA X.K X.w (bltE .sorted)) := by
  intro pins s σ H xs us Q I r ⟨m, S, as, v, rs, ra, e, q⟩
  obtain ⟨a, rfl, e1⟩ := one_some (f := bSorted S) e
  clear e
  obtain ⟨x, rfl, ea⟩ := ra.one
  unfold bSorted at e1
  split at e1
  · rename_i ys h1
    obtain ⟨ns, h2, rfl⟩ := Option.map_eq_some_iff.mp e1
    obtain ⟨p, vs, rfl, hp, rl⟩ := itL_ok rs ea h1
    obtain rfl := allInts_map h2
    obtain rfl := rvl_ints rl
    refine cr_sortedI pins s σ H _ us Q I r ⟨p, ns, rfl, SqL.of hp, fun ns' p' hperm hs nf => ?_⟩
    obtain rfl := sorted_is hperm hs
    exact q _ _ (same_upd nf) (new_lst rs nf (rvl_of_ints _)) (fr_new nf)
  · split at e1
    · rename_i ns h1
      split at e1
      · rename_i h64
        cases e1
        obtain ⟨p, rfl, hp, hn⟩ := itS_ok rs ea h1
        refine cr_sortedSet hc pins s σ H _ us Q I r ⟨p, _, _, rfl, hp, h64, fun ns' p' hs hm hl nf => ?_⟩
        have hnd : ns'.Nodup := hs.imp fun h => Int.ne_of_lt h
        have hperm : ns'.Perm ns := nodup_len hnd hn fun k => by rw [hm k, decide_eq_true_iff]
        obtain rfl := sorted_is hperm (hs.imp fun h => Int.le_of_lt h)
        exact q _ _ (same_upd nf) (new_lst rs nf (rvl_of_ints _)) (fr_new nf)
      · cases e1
    · split at e1
      · rename_i kvs h1
        obtain ⟨ns, h2, rfl⟩ := Option.map_eq_some_iff.mp e1
        obtain ⟨p, ws, rfl, hp, rl⟩ := itD_ok rs ea h1
        refine sorted_dict hc pins s σ H _ us Q I r ⟨p, ws, ns, rfl, .inl hp, rkl_keysI rl (allInts_map h2), fun ns' p' hperm hs nf => ?_⟩
        obtain rfl := sorted_is hperm hs
        exact q _ _ (same_upd nf) (new_lst rs nf (rvl_of_ints _)) (fr_new nf)
      · cases e1
end
end Mp
end partM6c

section partM7
set_option linter.all false
set_option maxRecDepth 100000
/-! M7: from the text of a def to Mp. -/
namespace Mp
open PySem
/-- what stands around: names by slot, the scope; of the text: defs with their parameters, constants, written dicts, calls with keywords -/
structure Tab where
  fns : List (Str × List Str)
  gls : List Str
  kds : List Str
  kws : List (Nat × Nat × List Str × List Nat)
structure CC where
  N : List Str
  sc : Scope
  T : Tab
def lkS (l : List Str) (x : Str) : Option Nat := l.findIdx? fun y => decide (y = x)
def CC.kind (c : CC) (x : Str) : Option NameKind := c.sc.names.lookup x
def visK : Option NameKind → Bool
  | some .local => true
  | some .cell => true
  | some .free => true
  | _ => false
def locK : Option NameKind → Bool
  | some .local => true
  | some .cell => true
  | _ => false
def resv (x : Str) : Bool := decide (x = "__debug__") || decide (x = "__classdict__") || decide (x = "__name__")
def CC.slot (c : CC) (x : Str) : Option Nat := if visK (c.kind x) && !resv x then lkS c.N x else none
def CC.tslot (c : CC) (x : Str) : Option Nat := if locK (c.kind x) then lkS c.N x else none
def CC.glob (c : CC) (x : Str) : Bool := decide (c.kind x = some .globalImplicit) && !resv x
def strOkB (s : List Nat) : Bool := s.all (fun c => decide (c < 1114112)) && decide (s.length ≤ SZ)
def cK : Const → CE
  | .none => .cst .non
  | .bool b => .cst (.bl b)
  | .int i => .cst (.int i)
  | .str s => if strOkB s.cps.toList then .cst (.str s.cps.toList) else .bad
  | _ => .bad
def cAnd : List CE → CE
  | [] => .bad
  | [a] => a
  | a :: r => .and a (cAnd r)
def cOr : List CE → CE
  | [] => .bad
  | [a] => a
  | a :: r => .or a (cOr r)
def cBop : Operator → Option Bop
  | .Add => some .add
  | .Sub => some .sub
  | .Mult => some .mul
  | .FloorDiv => some .fdiv
  | .Mod => some .mod
  | .Pow => some .pow
  | .LShift => some .shl
  | .RShift => some .shr
  | _ => none
def cCop : CmpOp → Cop
  | .Eq => .eq
  | .NotEq => .ne
  | .Lt => .lt
  | .LtE => .le
  | .Gt => .gt
  | .GtE => .ge
  | .Is => .is
  | .IsNot => .isn
  | .In => .in
  | .NotIn => .nin
/-- no star, no display of a set: what stands where a value is wanted -/
def plainX : Expr → Bool
  | .Starred _ _ => false
  | .Set _ _ _ => false
  | .Slice _ _ _ _ => false
  | _ => true
def cBlt (x : Str) : Option Blt :=
  if x = "len" then some .len else if x = "tuple" then some .tuple else if x = "list" then some .list else if x = "sorted" then some .sorted
  else if x = "int" then some .int else if x = "abs" then some .abs else if x = "min" then some .min else if x = "max" then some .max else if x = "set" then some .set else none
def cTy (x : Str) : Option Ty :=
  if x = "int" then some .int else if x = "bool" then some .bool else if x = "str" then some .str else if x = "tuple" then some .tuple else if x = "list" then some .list else if x = "dict" then some .dict else none
def cMth (x : Str) : Option Mth :=
  if x = "append" then some .append else if x = "pop" then some .pop else if x = "insert" then some .insert else if x = "index" then some .index else none
def kwNames (kws : List Keyword) : List Str := kws.filterMap (·.arg)
def fnIx (T : Tab) (x : Str) : Option Nat := T.fns.findIdx? fun p => decide (p.1 = x)
def noSuper : Expr → Bool
  | .Call (.Name _ _) [] [] _ => false
  | _ => true
mutual
def cT (c : CC) : Nat → Expr → Option Tg
  | 0, _ => none
  | n + 1, e => match e with
    | .Name x _ => (c.tslot x).map .var
    | .Tuple es _ _ => (cTs c n es).map .tup
    | _ => none
def cTs (c : CC) : Nat → List Expr → Option (List Tg)
  | 0, _ => none
  | n + 1, es => match es with
    | [] => some []
    | e :: r => match cT c n e, cTs c n r with
      | some t, some ts => some (t :: ts)
      | _, _ => none
end
def Tg.all (p : Nat → Bool) : Nat → Tg → Bool
  | 0, _ => false
  | n + 1, t => match t with
    | .var i => p i
    | .tup ts => ts.all (Tg.all p n)
/-- the slots of a block's own names -/
def ownOf (N : List Str) (scope : Scope) : List (Str × Nat) := scope.names.filterMap fun y => if locK (some y.2) then (lkS N y.1).map fun i => (y.1, i) else none
def blkB (N : List Str) (sc scope : Scope) : Bool :=
  decide (scope.kind = .function) && scope.names.all (fun y => decide (scope.names.lookup y.1 = some y.2)) &&
    scope.names.all (fun y => decide (y.2 = .free → sc.names.lookup y.1 = some .cell ∨ sc.names.lookup y.1 = some .free))
def cI (c : CC) (r : Expr → CE) (tg iter : Expr) : CI :=
  match iter with
  | .Call f as kws _ => match f with
    | .Name x _ => if c.glob x && (fnIx c.T x).isNone && as.all plainX then (match kws with
        | [] => if x = "range" then (match as with
              | [b] => .rng1 (r b)
              | [a, b] => .rng2 (r a) (r b)
              | [a, b, d] => .rng3 (r a) (r b) (r d)
              | _ => .bad)
          else if x = "enumerate" then (match tg with
              | .Tuple _ _ _ => match as with
                | [e] => .enum (r e)
                | _ => .bad
              | _ => .bad)
          else if x = "zip" then (match tg with
              | .Tuple _ _ _ => match as with
                | [a, b] => .zip (r a) (r b)
                | _ => .bad
              | _ => .bad)
          else .exp (r iter)
        | _ => .bad) else .exp (r iter)
    | _ => .exp (r iter)
  | iter => if plainX iter then .exp (r iter) else .bad
def flatC : List CE → List CE → List CE
  | k :: ks, v :: vs => k :: v :: flatC ks vs
  | _, _ => []
/-- list(range(..)), tuple(range(..)) -/
def rngArg (c : CC) (x : Str) (as : List Expr) : Option (Bool × List Expr) :=
  match as with
  | [.Call (.Name r _) ras [] _] => if r = "range" ∧ c.glob r = true ∧ fnIx c.T r = none ∧ ras.all plainX = true then (if x = "tuple" then some (true, ras) else if x = "list" then some (false, ras) else none) else none
  | _ => none
def cE : Nat → CC → Expr → CE
  | 0, _, _ => .bad
  | n + 1, c, e => match e with
    | .Constant k _ _ => cK k
    | .Name x _ => match c.slot x with
      | some i => .var i
      | none => if c.glob x then (match lkS c.T.gls x with
        | some g => .glb g
        | none => .bad) else .bad
    | .Tuple es _ _ => if es.all plainX then .tup (es.map (cE n c)) else .bad
    | .List es _ => if es.all plainX then .lst (es.map (cE n c)) else .bad
    | .Dict ks vs _ => if ks.isEmpty && vs.isEmpty then .dct0 else if ks.all (·.isSome) && decide (ks.length = vs.length) && decide (ks.length ≤ 15) && !ks.isEmpty then .dct (flatC (ks.map fun o => match o with
      | some e => cE n c e
      | none => .bad) (vs.map (cE n c))) else .bad
    | .BinOp a o b _ => match cBop o with
      | some o => .bin o (cE n c a) (cE n c b)
      | none => .bad
    | .UnaryOp o a _ => match o with
      | .Not => .not (cE n c a)
      | .USub => .neg (cE n c a)
      | _ => .bad
    | .BoolOp o vs _ => match o with
      | .And => cAnd (vs.map (cE n c))
      | .Or => cOr (vs.map (cE n c))
    | .Compare a ops bs _ => match ops, bs with
      | [o], [b] => if plainX b then (match o, b with
        | .In, .Name d _ => (match (if c.glob d then lkS c.T.kds d else none) with
          | some k => .kin false k (cE n c a)
          | none => .cmp .in (cE n c a) (cE n c b))
        | .NotIn, .Name d _ => (match (if c.glob d then lkS c.T.kds d else none) with
          | some k => .kin true k (cE n c a)
          | none => .cmp .nin (cE n c a) (cE n c b))
        | o, b => .cmp (cCop o) (cE n c a) (cE n c b)) else .bad
      | [o, o'], [b, d] => if plainX b && plainX d then .cmp2 (cCop o) (cCop o') (cE n c a) (cE n c b) (cE n c d) else .bad
      | _, _ => .bad
    | .IfExp t a b _ => .ite (cE n c t) (cE n c a) (cE n c b)
    | .Subscript a i _ => match i with
      | .Slice lo hi st _ => match st with
        | none => .slc (cE n c a) (lo.map (cE n c)) (hi.map (cE n c))
        | some _ => .bad
      | i => if plainX i then (match (match a with
          | .Name d _ => if c.glob d then lkS c.T.kds d else none
          | _ => none) with
        | some k => .kget k (cE n c i)
        | none => .idx (cE n c a) (cE n c i)) else .bad
    | .Call f as kws pos => match f with
      | .Name x _ => if c.glob x && as.all plainX then (match fnIx c.T x with
          | some i => match kws with
            | [] => .call i (as.map (cE n c))
            | kws => if kws.all (fun k => k.arg.isSome && plainX k.value) then (match c.T.kws.find? (fun q => decide (q.1 = i ∧ q.2.1 = as.length ∧ q.2.2.1 = kwNames kws)) with
              | some q => .callK i (as.map (cE n c)) (kws.map fun k => cE n c k.value) q.2.2.2
              | none => .bad) else .bad
          | none => match kws with
            | [] => if x = "isinstance" then (match as with
                | [e, .Name t _] => if c.glob t && (fnIx c.T t).isNone then (match cTy t with
                  | some ty => .isi (cE n c e) ty
                  | none => .bad) else .bad
                | _ => .bad)
              else (match rngArg c x as with
                | some (k, [b]) => .rngS k (.cst (.int 0)) (cE n c b)
                | some (k, [a, b]) => .rngS k (cE n c a) (cE n c b)
                | some _ => .bad
                | none => match cBlt x with
                  | some b => match as with
                    | [] => .bad
                    | as => .blt b (as.map (cE n c))
                  | none => .bad)
            | _ => .bad) else .bad
      | .Attribute o m apos => if decide (apos.endLine = pos.line) && noSuper o && as.all plainX && decide (as.length < 20) then (match kws with
        | [] => if m = "extend" then (match as with
            | [a] => .ext (cE n c o) (cE n c a)
            | _ => .bad)
          else (match cMth m with
            | some m => .mth m (cE n c o) (as.map (cE n c))
            | none => .bad)
        | _ => .bad) else .bad
      | _ => .bad
    | .ListComp elt gens scope _ => match gens with
      | [⟨tg, iter, ifs, 0⟩] => if blkB c.N c.sc scope then
          (let own := (ownOf c.N scope).map (·.2)
          match cT ⟨c.N, scope, c.T⟩ n tg with
          | some t => if t.all (fun i => own.contains i) 20 && decide (ifs.length ≤ 1) then .lc (cE n ⟨c.N, scope, c.T⟩ elt) t (cI c (cE n c) tg iter) (ifs.map (cE n ⟨c.N, scope, c.T⟩)) own else .bad
          | none => .bad) else .bad
      | _ => .bad
    | _ => .bad
/-! ### statements -/
def EF : Nat := 60
def starQ : Expr → Bool
  | .Starred _ _ => true
  | _ => false
def nmAt (c : CC) (line : Nat) : Expr → Option Str
  | .Name x p => if c.kind x == some .local && p.line == line then some x else none
  | _ => none
/-- a, b = x, y: which names are stored from the right; none: the model does not say -/
def swp (c : CC) (ts vs : List Expr) : Option (Option (List Str)) :=
  if (!(ts.length == 2 || ts.length == 3) || vs.length != ts.length) = true then some none else
  if vs.any starQ = true then some none else
  let ns := ts.filterMap (nmAt c ((ts.head?.map (·.pos.line)).getD 0))
  if (ns.length != ts.length || ns.eraseDups.length != ns.length) = true then some none else
  if vs.all (foldedForSure 8) = true then some none else
  if vs.all (constantsAlone 8) = true then none else some (some ns)
/-- name = [..]: stored within the comprehension's own frame -/
def lcSwap (c : CC) (x : Str) (p : Pos) (scope : Scope) (lp : Pos) : Bool :=
  c.kind x == some .local && p.line == lp.line && !(scope.names.any fun q => q.1 == x && (q.2 == .local || q.2 == .cell))
def allNe : List Nat → Bool
  | [] => true
  | i :: r => !r.contains i && allNe r
def isLoc (c : CC) : Expr → Option (Str × Nat)
  | .Name x _ => if c.kind x = some .local then (lkS c.N x).map fun i => (x, i) else none
  | _ => none
def cAsg (c : CC) (tg e : Expr) : CS :=
  match tg with
  | .Name x _ => match c.tslot x with
    | some i => .asg (.var i) (cE EF c e)
    | none => .bad
  | .Tuple ts _ _ => match e with
    | .Tuple vs _ _ => match swp c ts vs with
      | some none => match cT c EF tg with
        | some t => .asg t (cE EF c e)
        | none => .bad
      | some (some ns) => match ts.mapM (isLoc c) with
        | some l => if l.map (·.1) = ns ∧ allNe (l.map (·.2)) = true ∧ vs.all plainX = true ∧ vs.length = ts.length then .asg (.tup (l.map fun q => .var q.2)) (.tup (vs.map (cE EF c))) else .bad
        | none => .bad
      | none => .bad
    | e => match cT c EF tg with
      | some t => .asg t (cE EF c e)
      | none => .bad
  | .Subscript o i _ => if plainX i then .asgS (cE EF c o) (cE EF c i) (cE EF c e) else .bad
  | _ => .bad
def cS : Nat → CC → Stmt → CS
  | 0, _, _ => .bad
  | n + 1, c, s => match s with
    | .Pass _ => .pass
    | .Break _ => .brk
    | .Continue _ => .cont
    | .Expr e _ => match e with
      | .Constant (.str _) _ _ => .pass
      | .ListComp _ _ _ _ => .bad
      | e => .exp (cE EF c e)
    | .Return (some e) _ => .ret (cE EF c e)
    | .Return none _ => .retN
    | .Assign [tg] e _ => cAsg c tg e
    | .AugAssign (.Name x _) op e _ => match c.tslot x, cBop op with
      | some i, some o => .aug i o (cE EF c e)
      | _, _ => .bad
    | .If t a b _ => .ife (cE EF c t) (a.map (cS n c)) (b.map (cS n c))
    | .While t b [] _ => .whl (cE EF c t) (b.map (cS n c))
    | .For tg it b [] _ => match cT c EF tg with
      | some t => .frr t (cI c (cE EF c) tg it) (b.map (cS n c))
      | none => .bad
    | _ => .bad
end Mp
end partM7

section partM8
set_option Elab.async false
set_option linter.all false
set_option maxRecDepth 100000
/-! M8: what Mp says of an expression holds of it. -/
namespace Mp
open PySem PySem.Spec PyProof.Rows L2
theorem bind_inv {α β : Type} {r : R α} {f : α → Sto → R β} {b : β} {S' : Sto} (e : r.bind f = .ok b S') : ∃ a S1, r = .ok a S1 ∧ f a S1 = .ok b S' := by
  cases r with
  | ok a S1 => exact ⟨a, S1, rfl, e⟩
  | exc x S1 => cases e
  | err => cases e
theorem opt_inv {α : Type} {o : Option α} {S S' : Sto} {a : α} (e : R.opt o S = .ok a S') : o = some a ∧ S = S' := by
  cases o with
  | none => cases e
  | some x => cases e; exact ⟨rfl, rfl⟩
section
variable (K : PySem.W.Frag) (w : World) (gl : List PV) (kd : List KD) (F : FT)
/-- what is wanted behind an expression -/
def Aft (G : Grd) (m : MP) (H : Hp) (r : R EV) (Q : VK) : Prop := ∃ v S', r = .ok v S' ∧ ∀ m' V' H', Fr G m H m' H' → RS K w m' H' S' → RelE K w m' H' v V' → FrE H v V' → Q V' H'
def tE (ce : CE) : TE := fun σ H Q => ∃ G m env S, RS K w m H S ∧ REnv K m H env σ ∧ Aft K w G m H (evE gl kd F G ce env S) Q
/-- .. as a value -/
def tV (ce : CE) : TE := fun σ H Q => ∃ G m env S v S', RS K w m H S ∧ REnv K m H env σ ∧ (evE gl kd F G ce env S).bind mat = .ok v S' ∧ ∀ m' V' H', Fr G m H m' H' → RS K w m' H' S' → Rv K m' H' v V' → Q V' H'
def tT (ce : CE) : TT := fun σ H Q => ∃ G m env S k S', RS K w m H S ∧ REnv K m H env σ ∧ tst gl kd F G ce env S = .ok k S' ∧ ∀ m' H', Fr G m H m' H' → RS K w m' H' S' → Q k H'
def tL (ces : List CE) : TA := fun σ H Q => ∃ G m env S vs S', RS K w m H S ∧ REnv K m H env σ ∧ evL gl kd F G ces env S = .ok vs S' ∧ ∀ m' Vs H', Fr G m H m' H' → RS K w m' H' S' → RvL K m' H' vs Vs → Q Vs H'
def tB (ces : List CE) : TA := fun σ H Q => ∃ G m env S vs S', RS K w m H S ∧ REnv K m H env σ ∧ evB gl kd F G ces env S = .ok vs S' ∧ ∀ m' Vs H', Fr G m H m' H' → RS K w m' H' S' → RelEL K w m' H' vs Vs → Q Vs H'
end
section
variable {X : Cx}
theorem PE_imp {e : Expr} {t t' : TE} (h : PE X e t) (i : ∀ σ H Q, t' σ H Q → t σ H Q) : PE X e t' := ⟨fun pins s σ H Q I q => h.run pins s σ H Q I (i σ H Q q)⟩
theorem PE_no {e : Expr} {t' : TE} (i : ∀ σ H Q, ¬ t' σ H Q) : PE X e t' := ⟨fun pins s σ H Q I q => (i σ H Q q).elim⟩
theorem PT_imp {e : Expr} {t t' : TT} (h : PT X e t) (i : ∀ σ H Q, t' σ H Q → t σ H Q) : PT X e t' := ⟨fun pins s σ H Q I q => h.run pins s σ H Q I (i σ H Q q)⟩
theorem PT_no {e : Expr} {t' : TT} (i : ∀ σ H Q, ¬ t' σ H Q) : PT X e t' := ⟨fun pins s σ H Q I q => (i σ H Q q).elim⟩
theorem PA_imp {e : List Expr} {t t' : TA} (h : PA X e t) (i : ∀ σ H Q, t' σ H Q → t σ H Q) : PA X e t' := ⟨fun pos pins s σ H Q I q => h.run pos pins s σ H Q I (i σ H Q q)⟩
theorem PE_or {e : Expr} {t t1 t2 : TE} (h1 : PE X e t1) (h2 : PE X e t2) (i : ∀ σ H Q, t σ H Q → t1 σ H Q ∨ t2 σ H Q) : PE X e t :=
  ⟨fun pins s σ H Q I q => (i σ H Q q).elim (h1.run pins s σ H Q I) (h2.run pins s σ H Q I)⟩
variable {gl : List PV} {kd : List KD} {F : FT} {a b d e : Expr} {ca cb cd ce : CE} {pos : Pos} {es : List Expr} {ces : List CE}
theorem s_bad : PE X e (tE X.K X.w gl kd F .bad) := PE_no fun σ H Q ⟨G, m, env, S, rs, re, v, S', e, q⟩ => by unfold evE at e; cases e
theorem s_cst {v : PV} {V' : V} (h : PE X e (tC V')) (r : ∀ m H, Rv X.K m H v V') : PE X e (tE X.K X.w gl kd F (.cst v)) :=
  PE_imp h fun σ H Q ⟨G, m, env, S, rs, re, v', S', e, q⟩ => by
    unfold evE at e
    cases e
    exact q m V' H Fr.refl rs (r m H) trivial
theorem s_var {i : Nat} (h : PE X e (tVar i)) : PE X e (tE X.K X.w gl kd F (.var i)) :=
  PE_imp h fun σ H Q ⟨G, m, env, S, rs, re, v', S', e, q⟩ => by
    unfold evE at e
    split at e
    · rename_i v hv
      cases e
      obtain ⟨V', h1, h2⟩ := re.get i v hv
      exact ⟨V', h1, q m V' H Fr.refl rs h2 trivial⟩
    · cases e
theorem s_glb {g : Nat} {V' : V} (h : PE X e (tC V')) (r : ∀ v, gl[g]? = some v → ∀ m H, Rv X.K m H v V') : PE X e (tE X.K X.w gl kd F (.glb g)) :=
  PE_imp h fun σ H Q ⟨G, m, env, S, rs, re, v', S', e, q⟩ => by
    unfold evE at e
    split at e
    · rename_i v hv
      cases e
      exact q m V' H Fr.refl rs (r v hv m H) trivial
    · cases e
theorem s_bin {o : Bop} {op : Operator} (ho : o.op = op) (ha : PE X a (tE X.K X.w gl kd F ca)) (hb : PE X b (tE X.K X.w gl kd F cb)) : PE X (.BinOp a op b pos) (tE X.K X.w gl kd F (.bin o ca cb)) := by
  subst ho
  refine PE_imp (pe_op (op_bin o) ha hb) fun σ H Q ⟨G, m, env, S, rs, re, v, S', e, q⟩ => ?_
  unfold evE at e
  obtain ⟨x, S1, e1, e⟩ := bind_inv e
  obtain ⟨y, S2, e2, e⟩ := bind_inv e
  obtain ⟨e3, rfl⟩ := opt_inv e
  refine ⟨G, m, env, S, rs, re, x, S1, e1, fun m1 V1 H1 f1 rs1 r1 n1 => ⟨G, m1, env, S1, rs1, re.fr f1 rs, y, S2, e2, fun m2 V2 H2 f2 rs2 r2 n2 => ⟨m2, S2, x, y, v, rs2, r1.fr f2 rs1, r2, e3, fun V' H' sm r' n' => ?_⟩⟩⟩
  have f := f1.trans f2
  exact q m2 V' H' (f.trans (Fr.of_same sm rs2)) (rs2.same sm) r' (n'.back f rs rs2)
theorem s_neg (ha : PE X a (tE X.K X.w gl kd F ca)) : PE X (.UnaryOp .USub a pos) (tE X.K X.w gl kd F (.neg ca)) := by
  refine PE_imp (pe_un un_neg ha) fun σ H Q ⟨G, m, env, S, rs, re, v, S', e, q⟩ => ?_
  unfold evE at e
  obtain ⟨x, S1, e1, e⟩ := bind_inv e
  refine ⟨G, m, env, S, rs, re, x, S1, e1, fun m1 V1 H1 f1 rs1 r1 n1 => ?_⟩
  split at e
  · rename_i i
    cases e
    cases r1
    exact ⟨i, rfl, q m1 _ H1 f1 rs1 (Rv.int _) trivial⟩
  · cases e
theorem s_not (ha : PE X a (tE X.K X.w gl kd F ca)) : PE X (.UnaryOp .Not a pos) (tE X.K X.w gl kd F (.not ca)) := by
  refine PE_imp (pe_notT ha) fun σ H Q ⟨G, m, env, S, rs, re, v, S', e, q⟩ => ?_
  unfold evE at e
  obtain ⟨x, S1, e1, e⟩ := bind_inv e
  refine ⟨G, m, env, S, rs, re, x, S1, e1, fun m1 V1 H1 f1 rs1 r1 n1 => ?_⟩
  split at e
  · rename_i k hk
    cases e
    exact ⟨k, tru_E rs1 r1 hk, q m1 _ H1 f1 rs1 (Rv.bl _) trivial⟩
  · cases e
theorem s_and {rest : List Expr} (ha : PE X a (tE X.K X.w gl kd F ca)) (hb : PE X (.BoolOp .And (b :: rest) pos) (tE X.K X.w gl kd F cb)) : PE X (.BoolOp .And (a :: b :: rest) pos) (tE X.K X.w gl kd F (.and ca cb)) := by
  refine PE_imp (pe_andT ha hb) fun σ H Q ⟨G, m, env, S, rs, re, v, S', e, q⟩ => ?_
  unfold evE at e
  obtain ⟨x, S1, e1, e⟩ := bind_inv e
  refine ⟨G, m, env, S, rs, re, x, S1, e1, fun m1 V1 H1 f1 rs1 r1 n1 => ?_⟩
  split at e
  · rename_i k hk
    refine ⟨k, tru_E rs1 r1 hk, ?_⟩
    cases k with
    | true => exact ⟨G, m1, env, S1, rs1, re.fr f1 rs, v, S', e, fun m2 V2 H2 f2 rs2 r2 n2 => q m2 V2 H2 (f1.trans f2) rs2 r2 (n2.back f1 rs rs1)⟩
    | false =>
      cases e
      exact q m1 V1 H1 f1 rs1 r1 n1
  · cases e
theorem s_or {rest : List Expr} (ha : PE X a (tE X.K X.w gl kd F ca)) (hb : PE X (.BoolOp .Or (b :: rest) pos) (tE X.K X.w gl kd F cb)) : PE X (.BoolOp .Or (a :: b :: rest) pos) (tE X.K X.w gl kd F (.or ca cb)) := by
  refine PE_imp (pe_orT ha hb) fun σ H Q ⟨G, m, env, S, rs, re, v, S', e, q⟩ => ?_
  unfold evE at e
  obtain ⟨x, S1, e1, e⟩ := bind_inv e
  refine ⟨G, m, env, S, rs, re, x, S1, e1, fun m1 V1 H1 f1 rs1 r1 n1 => ?_⟩
  split at e
  · rename_i k hk
    refine ⟨k, tru_E rs1 r1 hk, ?_⟩
    cases k with
    | false => exact ⟨G, m1, env, S1, rs1, re.fr f1 rs, v, S', e, fun m2 V2 H2 f2 rs2 r2 n2 => q m2 V2 H2 (f1.trans f2) rs2 r2 (n2.back f1 rs rs1)⟩
    | true =>
      cases e
      exact q m1 V1 H1 f1 rs1 r1 n1
  · cases e
theorem s_cmp {o : Cop} {op : CmpOp} (hu : X.A.units + 65 < cLine) (ho : o.op = op) (hm : behindInMarks op b = false) (ha : PE X a (tE X.K X.w gl kd F ca)) (hb : PE X b (tE X.K X.w gl kd F cb)) : PE X (.Compare a [op] [b] pos) (tE X.K X.w gl kd F (.cmp o ca cb)) := by
  subst ho
  refine PE_imp (pe_cmpR (op_cmp hu o) ha hb hm) fun σ H Q ⟨G, m, env, S, rs, re, v, S', e, q⟩ => ?_
  unfold evE at e
  obtain ⟨x, S1, e1, e⟩ := bind_inv e
  obtain ⟨y, S2, e2, e⟩ := bind_inv e
  split at e
  · rename_i k hk
    cases e
    exact ⟨G, m, env, S, rs, re, x, S1, e1, fun m1 V1 H1 f1 rs1 r1 n1 => ⟨G, m1, env, S1, rs1, re.fr f1 rs, y, S', e2, fun m2 V2 H2 f2 rs2 r2 n2 => ⟨m2, S', x, y, k, rs2, r1.fr f2 rs1, r2, hk, q m2 _ H2 (f1.trans f2) rs2 (Rv.bl _) trivial⟩⟩⟩
  · cases e
theorem s_cmp2 {o o' : Cop} {op op' : CmpOp} (hu : X.A.units + 65 < cLine) (ho : o.op = op) (ho' : o'.op = op') (hm : lastMarks [op, op'] [b, d] = false) (ha : PE X a (tE X.K X.w gl kd F ca)) (hb : PE X b (tE X.K X.w gl kd F cb)) (hd : PE X d (tE X.K X.w gl kd F cd)) :
    PE X (.Compare a [op, op'] [b, d] pos) (tE X.K X.w gl kd F (.cmp2 o o' ca cb cd)) := by
  subst ho
  subst ho'
  refine PE_imp (pe_chain (op_cmp hu o) (op_cmp hu o') ha hb hd hm) fun σ H Q ⟨G, m, env, S, rs, re, v, S', e, q⟩ => ?_
  unfold evE at e
  obtain ⟨x, S1, e1, e⟩ := bind_inv e
  obtain ⟨y, S2, e2, e⟩ := bind_inv e
  split at e
  · rename_i k hk
    refine ⟨G, m, env, S, rs, re, x, S1, e1, fun m1 V1 H1 f1 rs1 r1 n1 => ⟨G, m1, env, S1, rs1, re.fr f1 rs, y, S2, e2, fun m2 V2 H2 f2 rs2 r2 n2 => ⟨m2, S2, x, y, k, rs2, r1.fr f2 rs1, r2, hk, k, rfl, ?_⟩⟩⟩
    have f := f1.trans f2
    cases k with
    | false =>
      cases e
      exact q m2 _ H2 f rs2 (Rv.bl _) trivial
    | true =>
      obtain ⟨z, S3, e3, e⟩ := bind_inv e
      split at e
      · rename_i k' hk'
        cases e
        exact ⟨G, m2, env, S2, rs2, re.fr f rs, z, S', e3, fun m3 V3 H3 f3 rs3 r3 n3 => ⟨m3, S', y, z, k', rs3, r2.fr f3 rs2, r3, hk', q m3 _ H3 (f.trans f3) rs3 (Rv.bl _) trivial⟩⟩
      · cases e
  · cases e
theorem s_ite (hd : PT X d (tT X.K X.w gl kd F cd)) (ha : PE X a (tE X.K X.w gl kd F ca)) (hb : PE X b (tE X.K X.w gl kd F cb)) : PE X (.IfExp d a b pos) (tE X.K X.w gl kd F (.ite cd ca cb)) := by
  refine PE_imp (pe_ifExp hd ha hb) fun σ H Q ⟨G, m, env, S, rs, re, v, S', e, q⟩ => ?_
  unfold evE at e
  obtain ⟨x, S1, e1, e⟩ := bind_inv e
  split at e
  · rename_i k hk
    refine ⟨G, m, env, S, k, S1, rs, re, ?_, fun m1 H1 f1 rs1 => ?_⟩
    · unfold tst
      rw [e1, R.bind_ok, hk]
      rfl
    · cases k with
      | true => exact ⟨G, m1, env, S1, rs1, re.fr f1 rs, v, S', e, fun m2 V2 H2 f2 rs2 r2 n2 => q m2 V2 H2 (f1.trans f2) rs2 r2 (n2.back f1 rs rs1)⟩
      | false => exact ⟨G, m1, env, S1, rs1, re.fr f1 rs, v, S', e, fun m2 V2 H2 f2 rs2 r2 n2 => q m2 V2 H2 (f1.trans f2) rs2 r2 (n2.back f1 rs rs1)⟩
  · cases e
theorem s_idx (hu : X.A.units + 1 < cLine) (hs : PlainIx b) (ha : PE X a (tE X.K X.w gl kd F ca)) (hb : PE X b (tE X.K X.w gl kd F cb)) : PE X (.Subscript a b pos) (tE X.K X.w gl kd F (.idx ca cb)) := by
  refine PE_imp (pe_ix (ix_E hu) ha hb hs) fun σ H Q ⟨G, m, env, S, rs, re, v, S', e, q⟩ => ?_
  unfold evE at e
  obtain ⟨x, S1, e1, e⟩ := bind_inv e
  obtain ⟨y, S2, e2, e⟩ := bind_inv e
  split at e
  · rename_i z hz
    cases e
    exact ⟨G, m, env, S, rs, re, x, S1, e1, fun m1 V1 H1 f1 rs1 r1 n1 => ⟨G, m1, env, S1, rs1, re.fr f1 rs, y, S', e2, fun m2 V2 H2 f2 rs2 r2 n2 => ⟨m2, S', x, y, z, rs2, r1.fr f2 rs1, r2, hz, fun V' rz => q m2 _ H2 (f1.trans f2) rs2 rz trivial⟩⟩⟩
  · cases e
def tO (K : PySem.W.Frag) (w : World) (gl : List PV) (kd : List KD) (F : FT) (o : Option CE) : TO := fun σ H Q => ∃ G m env S v S', RS K w m H S ∧ REnv K m H env σ ∧ evO gl kd F G o env S = .ok v S' ∧ ∀ m' H', Fr G m H m' H' → RS K w m' H' S' → Q v H'
theorem PO_imp {o : Option Expr} {t t' : TO} (h : L2.PO X o t) (i : ∀ σ H Q, t' σ H Q → t σ H Q) : L2.PO X o t' := ⟨fun pins s σ H Q I q => h.run pins s σ H Q I (i σ H Q q)⟩
theorem s_oN : L2.PO X none (tO X.K X.w gl kd F none) := PO_imp po_none fun σ H Q ⟨G, m, env, S, v, S', rs, re, e, q⟩ => by
  unfold evO at e
  cases e
  exact q m H Fr.refl rs
theorem s_oS (ha : PE X a (tE X.K X.w gl kd F ca)) : L2.PO X (some a) (tO X.K X.w gl kd F (some ca)) := PO_imp (po_some ha) fun σ H Q ⟨G, m, env, S, v, S', rs, re, e, q⟩ => by
  unfold evO at e
  obtain ⟨x, S1, e1, e⟩ := bind_inv e
  obtain ⟨e2, rfl⟩ := opt_inv e
  refine ⟨G, m, env, S, rs, re, x, S1, e1, fun m1 V1 H1 f1 rs1 r1 n1 => ?_⟩
  unfold endE at e2
  split at e2
  · rename_i h; cases h
  · rename_i i h
    cases h
    cases e2
    cases r1
    exact ⟨i, rfl, q m1 H1 f1 rs1⟩
  · cases e2
theorem s_slc {lo hi : Option Expr} {cl ch : Option CE} {p2 : Pos} (ha : PE X a (tE X.K X.w gl kd F ca)) (hl : L2.PO X lo (tO X.K X.w gl kd F cl)) (hh : L2.PO X hi (tO X.K X.w gl kd F ch)) : PE X (.Subscript a (.Slice lo hi none p2) pos) (tE X.K X.w gl kd F (.slc ca cl ch)) := by
  refine PE_imp (pe_slice sl_E ha hl hh) fun σ H Q ⟨G, m, env, S, rs, re, v, S', e, q⟩ => ?_
  unfold evE at e
  obtain ⟨x, S1, e1, e⟩ := bind_inv e
  obtain ⟨l, S2, e2, e⟩ := bind_inv e
  obtain ⟨h, S3, e3, e⟩ := bind_inv e
  obtain ⟨e4, rfl⟩ := opt_inv e
  refine ⟨G, m, env, S, rs, re, x, S1, e1, fun m1 V1 H1 f1 rs1 r1 n1 => ⟨G, m1, env, S1, l, S2, rs1, re.fr f1 rs, e2, fun m2 H2 f2 rs2 => ⟨G, m2, env, S2, h, S3, rs2, (re.fr f1 rs).fr f2 rs1, e3, fun m3 H3 f3 rs3 => ⟨m3, S3, x, v, rs3, (r1.fr f2 rs1).fr f3 rs2, e4, fun V' H' sm r' n' => ?_⟩⟩⟩⟩
  have f := (f1.trans f2).trans f3
  exact q m3 V' H' (f.trans (Fr.of_same sm rs3)) (rs3.same sm) r' (n'.back f rs rs3)
/-! #### lists of values -/
theorem mat_ok {K : PySem.W.Frag} {w : World} {G : Grd} {m m' : MP} {H H' : Hp} {S S' S2 : Sto} {x : EV} {V' : V} {v : PV} (rs : RS K w m H S) (f : Fr G m H m' H') (rs' : RS K w m' H' S') (r : RelE K w m' H' x V') (n : FrE H x V') (e : mat x S' = .ok v S2) :
    ∃ m2, Fr G m H m2 H' ∧ RS K w m2 H' S2 ∧ Rv K m2 H' v V' ∧ (∀ l b, m' l = some b → m2 l = some b) := by
  cases x with
  | val y => cases e; exact ⟨m', f, rs', r, fun _ _ h => h⟩
  | tmp o =>
    cases e
    obtain ⟨a, rfl, h1, h2⟩ := r
    obtain ⟨q1, q2, q3⟩ := rs.take f rs' h1 h2 (n a rfl)
    exact ⟨_, q2, q1, .ref mNew_same, q3⟩
theorem s_nil : PA X [] (tL X.K X.w gl kd F []) := PA_imp pa_nil fun σ H Q ⟨G, m, env, S, vs, S', rs, re, e, q⟩ => by
  unfold evL at e
  cases e
  exact q m [] H Fr.refl rs .nil
theorem s_cons (hs : starEach (a :: es) X.env = (false, eval a X.env) :: starEach es X.env) (ha : PE X a (tE X.K X.w gl kd F ca)) (hr : PA X es (tL X.K X.w gl kd F ces)) : PA X (a :: es) (tL X.K X.w gl kd F (ca :: ces)) := by
  refine PA_imp (pa_cons ha hr hs) fun σ H Q ⟨G, m, env, S, vs, S', rs, re, e, q⟩ => ?_
  unfold evL at e
  obtain ⟨v, S2, e1, e⟩ := bind_inv e
  obtain ⟨x, S1, e0, e1⟩ := bind_inv e1
  obtain ⟨ws, S3, e2, e⟩ := bind_inv e
  cases e
  refine ⟨G, m, env, S, rs, re, x, S1, e0, fun m1 V1 H1 f1 rs1 r1 n1 => ?_⟩
  obtain ⟨m2, f2, rs2, r2, _⟩ := mat_ok rs f1 rs1 r1 n1 e1
  exact ⟨G, m2, env, S2, ws, S', rs2, re.fr f2 rs, e2, fun m3 Vs H3 f3 rs3 r3 => q m3 _ H3 (f2.trans f3) rs3 (.cons (r2.fr f3 rs2) r3)⟩
theorem s_nilB : PA X [] (tB X.K X.w gl kd F []) := PA_imp pa_nil fun σ H Q ⟨G, m, env, S, vs, S', rs, re, e, q⟩ => by
  unfold evB at e
  cases e
  exact q m [] H Fr.refl rs .nil
theorem s_consB (hs : starEach (a :: es) X.env = (false, eval a X.env) :: starEach es X.env) (ha : PE X a (tE X.K X.w gl kd F ca)) (hr : PA X es (tB X.K X.w gl kd F ces)) : PA X (a :: es) (tB X.K X.w gl kd F (ca :: ces)) := by
  refine PA_imp (pa_cons ha hr hs) fun σ H Q ⟨G, m, env, S, vs, S', rs, re, e, q⟩ => ?_
  unfold evB at e
  obtain ⟨x, S1, e0, e⟩ := bind_inv e
  obtain ⟨ws, S3, e2, e⟩ := bind_inv e
  cases e
  exact ⟨G, m, env, S, rs, re, x, S1, e0, fun m1 V1 H1 f1 rs1 r1 n1 => ⟨G, m1, env, S1, ws, S', rs1, re.fr f1 rs, e2, fun m3 Vs H3 f3 rs3 r3 => q m3 _ H3 (f1.trans f3) rs3 (.cons (r1.fr f3 rs1) r3)⟩⟩
/-- a tuple, its object known -/
theorem tup_F {t : TA} {x1 : Nat} (h : PA X es t) : PE X (.Tuple es x1 pos) (fun σ H Q => t σ H fun xs H1 => xs.length ≤ sizeLine ∧ ∀ (p : Addr) (o : Obj), H1 p = none → o.dict = none → Q (.ref p) (upd H1 p (.frz o (.tup xs)))) := by
  refine ⟨fun pins s σ H Q I hq => ?_⟩
  refine wpAny_Tuple_spliced (thn (h.run pos pins s σ H _ I hq) fun us s1 ⟨xs, H1, I1, r, z, q⟩ => ⟨by rw [← r.length]; exact z, ?_⟩)
  have nf : H1 s1.heap.objs.size = none := I1.hok.fresh (Nat.le_refl _)
  refine ⟨.ref s1.heap.objs.size, upd H1 s1.heap.objs.size (.frz { cls := .type "tuple", data := .seq us.toArray } (.tup xs)), I1.laid (t' := s1.toks) (fun b u e => Heap.get?_push_of_some _ e) (Nat.le_refl _) ?_, rfl, q _ _ nf rfl⟩
  exact ⟨Heap.get?_push_size _ rfl, z, us, r, IsTup.new _ _⟩
theorem s_tup {x1 : Nat} (h : PA X es (tL X.K X.w gl kd F ces)) : PE X (.Tuple es x1 pos) (tE X.K X.w gl kd F (.tup ces)) := by
  refine PE_imp (tup_F h) fun σ H Q ⟨G, m, env, S, rs, re, v, S', e, q⟩ => ?_
  unfold evE at e
  obtain ⟨vs, S1, e1, e⟩ := bind_inv e
  split at e
  · rename_i hz
    cases e
    exact ⟨G, m, env, S, vs, S', rs, re, e1, fun m1 Vs H1 f1 rs1 r1 => ⟨by rw [← SZ_eq, ← r1.length]; exact hz, fun p o np d => q m1 _ _ (f1.trans (Fr.of_same (same_upd np) rs1)) (rs1.same (same_upd np)) (new_tup np d r1) trivial⟩⟩
  · cases e
theorem s_lst (h : PA X es (tL X.K X.w gl kd F ces)) : PE X (.List es pos) (tE X.K X.w gl kd F (.lst ces)) := by
  refine PE_imp (pe_lst h) fun σ H Q ⟨G, m, env, S, rs, re, v, S', e, q⟩ => ?_
  unfold evE at e
  obtain ⟨vs, S1, e1, e⟩ := bind_inv e
  split at e
  · rename_i hz
    cases e
    exact ⟨G, m, env, S, vs, S', rs, re, e1, fun m1 Vs H1 f1 rs1 r1 => ⟨by rw [← SZ_eq, ← r1.length]; exact hz, fun p np => q m1 _ _ (f1.trans (Fr.of_same (same_upd np) rs1)) (rs1.same (same_upd np)) (new_lst rs1 np r1) (fun a e => by cases e; exact f1.none rs rs1 np)⟩⟩
  · cases e
theorem s_dct0 : PE X (.Dict [] [] pos) (tE X.K X.w gl kd F .dct0) := by
  refine PE_imp pe_dnewK fun σ H Q ⟨G, m, env, S, rs, re, v, S', e, q⟩ => ?_
  unfold evE at e
  cases e
  exact fun p np => q m _ _ (Fr.of_same (same_upd np) rs) (rs.same (same_upd np)) ⟨p, rfl, ⟨[], upd_same, .nil⟩, rs.free np⟩ (fr_new np)
/-! #### calls -/
theorem s_blt {f : Value} {bl : Blt} {x : Str} {p : Pos} (hc : CallR X f (rA X.K X.w (bltE bl))) (hf : (∃ id, f = .builtin id) ∨ ∃ T, f = .type T) (hg : Gl X x) (hm : X.mg x = none) (hv : bootBuiltins x = some f) (hn : x ≠ "__name__") (hdb : (x == ("__debug__" : Str)) = false)
    (hs : starEach (a :: es) X.env = (false, eval a X.env) :: starEach es X.env) (hpl : (backTo pos (starEach es X.env)).any (·.1) = false) (h : PA X (a :: es) (tB X.K X.w gl kd F ces)) : PE X (.Call (.Name x p) (a :: es) [] pos) (tE X.K X.w gl kd F (.blt bl ces)) := by
  have key : PE X (.Call (.Name x p) (a :: es) [] pos) (tCB (rA X.K X.w (bltE bl)) (tB X.K X.w gl kd F ces)) := by
    rcases hf with ⟨id, rfl⟩ | ⟨T, rfl⟩
    · exact pe_callB hc hg hm hv h hn hdb hs hpl
    · exact pe_callTy hc hg hm hv h hn hdb hs hpl
  refine PE_imp key fun σ H Q ⟨G, m, env, S, rs, re, v, S', e, q⟩ => ?_
  unfold evE at e
  obtain ⟨vs, S1, e1, e⟩ := bind_inv e
  obtain ⟨e2, rfl⟩ := opt_inv e
  exact ⟨G, m, env, S, vs, S1, rs, re, e1, fun m1 Vs H1 f1 rs1 r1 => ⟨m1, S1, vs, v, rs1, r1, e2, fun V' H' sm r' n' => q m1 V' H' (f1.trans (Fr.of_same sm rs1)) (rs1.same sm) r' (n'.back f1 rs rs1)⟩⟩
end
end Mp
end partM8

section partM9
set_option Elab.async false
set_option linter.all false
set_option maxRecDepth 100000
/-! M9: methods, calls, walks, targets, comprehensions. -/
namespace Mp
open PySem PySem.Spec PyProof.Rows L2
section
variable {X : Cx} {a b d e o : Expr} {pos apos cpos p : Pos} {es : List Expr} {to : TE} {t : TA} {name : Str}
/-- the object of a builtin type, with no dict of its own -/
def TyR (X : Cx) (x : V) (H : Hp) (T : String) : Prop := ∀ (pins : List (Addr × Obj)) (s : Shared) (σ : L2.St) (v : Value), Inv X pins σ H s → L2.RelV x v → s.TypeIs v T ∧ ∀ a, v = .ref a → ∃ ob, s.heap.get? a = some ob ∧ ob.dict = none
/-- o.name(e, ..), the type being what it is -/
theorem bm_dyn (ho : PE X o to) (ha : PA X (e :: es) t) (hbase : attributeBase o name X.env (eval o X.env) = eval o X.env)
    (hfew : ((backTo cpos (starEach (e :: es) X.env)).all (fun x => !x.1) && (backToKw cpos (keywordEach [] X.env)).all (fun x => x.1.isSome)
      && decide ((e :: es).length + ([] : List Keyword).length + (if ([] : List Keyword).isEmpty then 0 else 1) < 30)) = true)
    (hline : (apos.endLine == cpos.line) = true) (hs : starEach (e :: es) X.env = (false, eval e X.env) :: starEach es X.env) (hplain : (backTo cpos (starEach es X.env)).any (·.1) = false) :
    PE X (.Call (.Attribute o name apos) (e :: es) [] cpos) (fun σ H Q => to σ H fun x H1 => ∃ T id r, PlainAttrs T ∧ Slot T name id ∧ typeOf (.builtin id) = pure (.type "method_descriptor") ∧ MtR X id r ∧ TyR X x H1 T ∧ t σ H1 fun xs H2 => r x xs H2 Q) := by
  refine ⟨fun pins s σ H Q I h => ?_⟩
  refine wpAny_Call_method_late hbase hfew hline rfl (thn (ho.run pins s σ H _ I h) fun v s1 ⟨x, H1, I1, r1, T, id, r, pa, sl, ty, hm, tr, q1⟩ => ?_)
  obtain ⟨h1, h2⟩ := tr pins s1 σ v I1 r1
  refine ⟨T, id, pa, sl, ty, h1, h2, ?_⟩
  have run := ha.run cpos pins s1 σ H1 _ I1 q1
  rw [hs] at run ⊢
  refine Calls.callWith_builtin (by show (false || (backTo cpos (starEach es X.env)).any (·.1)) = false; rw [hplain] <;> rfl) (Calls.evalArgs_plain ?_)
  exact thn run fun us s2 ⟨vs, H2, I2, r2, q2⟩ => hm pins s2 σ H2 x vs v us Q I2 r1 r2 q2
theorem bm_dyn0 (ho : PE X o to) (hbase : attributeBase o name X.env (eval o X.env) = eval o X.env) (hline : (apos.endLine == cpos.line) = true) :
    PE X (.Call (.Attribute o name apos) [] [] cpos) (fun σ H Q => to σ H fun x H1 => ∃ T id r, PlainAttrs T ∧ Slot T name id ∧ typeOf (.builtin id) = pure (.type "method_descriptor") ∧ MtR X id r ∧ TyR X x H1 T ∧ r x [] H1 Q) := by
  refine ⟨fun pins s σ H Q I h => ?_⟩
  refine wpAny_Call_method0_late hbase hline (thn (ho.run pins s σ H _ I h) fun v s1 ⟨x, H1, I1, r1, T, id, r, pa, sl, ty, hm, tr, q1⟩ => ?_)
  obtain ⟨h1, h2⟩ := tr pins s1 σ v I1 r1
  exact ⟨T, id, pa, sl, ty, h1, h2, Calls.callWith_builtin rfl (PySem.evalArgs_none (hm pins s1 σ H1 x [] v [] Q I1 r1 .nil q1))⟩
theorem tyR_lst {H : Hp} {a : Addr} {vs : List V} (h : H a = some (.lst vs)) : TyR X (.ref a) H "list" := fun pins s σ v I r => by
  cases r
  obtain ⟨_, its, n, _, e⟩ := I.hok a _ h
  exact ⟨⟨_, e, rfl⟩, fun b q => by cases q; exact ⟨_, e, rfl⟩⟩
theorem tyR_tup {H : Hp} {a : Addr} {vs : List V} (h : TupA X.K H a vs) : TyR X (.ref a) H "tuple" := fun pins s σ v I r => by
  cases r
  rcases h with ⟨ob, h, d⟩ | ⟨ob, its, n, h1, h2, d, _⟩
  · obtain ⟨e, _, its, _, ob', e', c, _⟩ := I.hok a _ h
    rw [e] at e'
    cases e'
    exact ⟨⟨_, e, c⟩, fun b q => by cases q; exact ⟨_, e, d⟩⟩
  · have e := I.kIn a ob h1
    exact ⟨⟨_, e, h2⟩, fun b q => by cases q; exact ⟨_, e, d⟩⟩
/-! #### the first place of an equal one -/
def rIx1 (K : PySem.W.Frag) (w : World) : V → List V → Hp → VK → Prop := fun x xs H Q => ∃ (m : MP) (S : Sto) (o : EV) (y : V) (z : PV) (i : Nat), xs = [y] ∧ RS K w m H S ∧ RelE K w m H o x ∧ Rv K m H z y ∧ idxOf o z S = some i ∧ Q (.int i) H
theorem idx_facts {ys : List PV} {z : PV} {i : Nat} (hz : z.bel 0 = true) (hy : PV.belL 0 ys = true) (e : (ys.findIdx? fun y => PV.eqv y z) = some i) :
    (∃ g, (toDs ys)[i]? = some g ∧ PyData.eqv g (toD z) = true) ∧ ∀ (j : Nat) (g : PyData), j < i → (toDs ys)[j]? = some g → PyData.eqv g (toD z) = false := by
  have mem : ∀ {ys : List PV}, PV.belL 0 ys = true → ∀ y ∈ ys, y.bel 0 = true := by
    intro ys
    induction ys with
    | nil => intro _ y h; cases h
    | cons x r ih =>
      intro h y hm
      have h' := Bool.and_eq_true_iff.mp h
      rcases List.mem_cons.mp hm with rfl | hm
      · exact h'.1
      · exact ih h'.2 y hm
  rw [List.findIdx?_eq_some_iff_getElem] at e
  obtain ⟨h, h1, h2⟩ := e
  refine ⟨⟨toD ys[i], by rw [toDs_map, List.getElem?_map, List.getElem?_eq_getElem h]; rfl, ?_⟩, fun j g hj hg => ?_⟩
  · rw [toD_eqv _ _ (mem hy _ (List.getElem_mem h)) hz]
    exact h1
  · have hj' : j < ys.length := by omega
    rw [toDs_map, List.getElem?_map, List.getElem?_eq_getElem hj'] at hg
    cases hg
    rw [toD_eqv _ _ (mem hy _ (List.getElem_mem hj')) hz]
    simpa using h2 j hj
theorem mt_idxL (hu : X.A.units + 65 < cLine) : MtR X "list.index" (fun x xs H Q => (∃ a vs, x = .ref a ∧ H a = some (.lst vs)) ∧ rIx1 X.K X.w x xs H Q) := by
  rintro pins s σ H x xs v us Q I rx rxs ⟨⟨a, vs0, rfl, h0⟩, m, S, o, y, z, i, rfl, rs, ro, rz, e, q⟩
  unfold idxOf at e
  split at e
  · rename_i ys hy
    split at e
    · rename_i hc
      obtain ⟨b1, b2, d1, d2⟩ := hc
      obtain ⟨p, vs, ep, hs, r⟩ := itT_ok rs ro hy
      cases ep
      obtain ⟨⟨g, hg, hg2⟩, hno⟩ := idx_facts b1 b2 e
      have hsl : SqL X.K H a vs0 := SqL.of h0
      have hv : SqL X.K H a vs := by
        rcases hs with hs | hs
        · exact hs
        · exfalso
          obtain ⟨its, _, ⟨ob, e1, c1, _⟩, _⟩ := I.tuple hs
          obtain ⟨_, its2, n, _, e2⟩ := I.hok a _ h0
          rw [e1] at e2
          cases e2
          exact absurd (Value.type.inj c1) (by decide)
      exact mt_indexD hu pins s σ H _ _ v us Q I rx rxs ⟨a, y, toD z, toDs ys, i, g, rfl, rfl, .lst hv (r.dp b2), rz.dp b1, r.shaped d2, rz.shaped d1, hg, hg2, hno, q⟩
    · cases e
  · cases e
theorem mt_idxT (hu : X.A.units + 65 < cLine) : MtR X "tuple.index" (fun x xs H Q => ∃ (m : MP) (y : V) (z : PV) (i : Nat) (a : Addr) (vs : List V) (ys : List PV), x = .ref a ∧ xs = [y] ∧ SqT X.K H a vs ∧ RvL X.K m H ys vs ∧ Rv X.K m H z y ∧
    z.bel 0 = true ∧ PV.belL 0 ys = true ∧ z.dep ≤ 60 ∧ (ys.findIdx? fun y => PV.eqv y z) = some i ∧ Q (.int i) H) := by
  rintro pins s σ H x xs v us Q I rx rxs ⟨m, y, z, i, a, vs, ys, rfl, rfl, hs, r, rz, b1, b2, d1, e, q⟩
  obtain ⟨⟨g, hg, hg2⟩, hno⟩ := idx_facts b1 b2 e
  cases rx
  obtain ⟨uy, rfl, ry⟩ := vals1 rxs
  obtain ⟨bs, r1⟩ := Dp.reads I (toD z) y uy (rz.dp b1) ry
  have lay : PyData.canLayAll0 (toDs ys) = true := r.lay
  have room : X.A.units + 1 + min (PyData.depthAll (toDs ys)) (toD z).depth < cLine := room_in_shaped (rz.shaped d1) hu
  obtain ⟨its, rv, ⟨⟨cls, dd, data, sls⟩, ho, hc, n, hdt⟩, hlen⟩ := I.tuple hs
  simp only at hc hdt
  subst hc hdt
  obtain ⟨as, h4⟩ := Dp.readsAll I (toDs ys) _ its (r.dp b2) rv
  have len1 : its.length = (toDs ys).length := SeqAt.ReadsAll.length (toDs ys) its as h4
  have mp : its.map (SeqAt.readOf s.heap) = toDs ys := SeqAt.readsAll_map (toDs ys) its as lay h4
  obtain ⟨hid, _⟩ := List.getElem?_eq_some_iff.mp hg
  have hi : i < its.toArray.size := by rw [List.size_toArray]; omega
  have at_ : ∀ (j : Nat) (hj : j < its.toArray.size) (g' : PyData), (toDs ys)[j]? = some g' → SeqAt.readOf s.heap its.toArray[j] = g' := by
    intro j hj g' hg'
    have hj' : j < its.length := by simpa using hj
    rw [← mp, List.getElem?_map, List.getElem?_eq_getElem hj'] at hg'
    simpa using Option.some.inj hg'
  refine call_meets PySem.F.slot_tuple_index ⟨_, ho, rfl⟩ PySem.F.entry_tuple_index (PySem.F.args_tuple_index_2 _ _)
    (TI.tuple_indexAt a its.toArray n dd sls uy (fun u => PyData.eqv (SeqAt.readOf s.heap u) (toD z)) i hi ?_ ?_) ⟨ho, SeqAt.items_eqAt (vs := its.toArray) (show ReadsAll s.heap its.toArray.toList (toDs ys) as from h4) r1 lay rz.lay room, ?_⟩
  · show PyData.eqv (SeqAt.readOf s.heap its.toArray[i]) (toD z) = true
    rw [at_ i hi g hg]
    exact hg2
  · intro j hj hji
    have hjd : j < (toDs ys).length := by omega
    show PyData.eqv (SeqAt.readOf s.heap its.toArray[j]) (toD z) = false
    rw [at_ j hj _ (List.getElem?_eq_getElem hjd)]
    exact hno j _ hji (List.getElem?_eq_getElem hjd)
  · exact ⟨.int (i : Nat), H, I.tok _, ⟨_, rfl⟩, q⟩
def Mth.nm : Mth → Str
  | .append => "append" | .pop => "pop" | .insert => "insert" | .index => "index"
variable {gl : List PV} {kd : List KD} {F : FT} {ca cb cd ce co : CE} {ces : List CE}
theorem mth_ix {x : EV} {vs : List PV} {v : EV} {S S' : Sto} {G : Grd} (e : mthE G .index x vs S = .ok v S') : ∃ z i, vs = [z] ∧ idxOf x z S = some i ∧ v = .val (.int i) ∧ S = S' := by
  unfold mthE at e
  dsimp only at e
  split at e
  · split at e
    · cases e; exact ⟨_, _, rfl, by assumption, rfl, rfl⟩
    · cases e
  · cases e
/-- which method it is, and what it does -/
theorem mth_fits (hu : X.A.units + 65 < cLine) {mt : Mth} {G : Grd} {m : MP} {H1 : Hp} {S1 S2 S' : Sto} {x : EV} {V1 : V} {vs : List PV} {v : EV} {k : Bool} (rs1 : RS X.K X.w m H1 S1) (r1 : RelE X.K X.w m H1 x V1) (hk : isLst x S1 = some k) (e : mthE G mt x vs S2 = .ok v S') :
    ∃ T id r, PlainAttrs T ∧ Slot T mt.nm id ∧ typeOf (.builtin id) = pure (.type "method_descriptor") ∧ MtR X id r ∧ TyR X V1 H1 T ∧ ∀ (m' : MP) (Vs : List V) (H' : Hp) (Q : VK), Fr G m H1 m' H' → RS X.K X.w m' H' S2 → RvL X.K m' H' vs Vs →
      (∀ V' H2, Fr G m' H' m' H2 → RS X.K X.w m' H2 S' → RelE X.K X.w m' H2 v V' → FrE H' v V' → Q V' H2) → r V1 Vs H' Q := by
  by_cases ht : ∃ ys, x = .val (.tup ys)
  · -- a tuple
    obtain ⟨ys', rfl⟩ := ht
    cases mt with
    | index =>
      obtain ⟨z, i, rfl, e1, rfl, rfl⟩ := mth_ix e
      unfold idxOf at e1
      split at e1
      · rename_i ys hy
        cases hy
        split at e1
        · rename_i hc
          cases r1 with
          | tup h1 h2 =>
          refine ⟨"tuple", "tuple.index", _, PySem.F.plainAttrs_tuple, PySem.F.slot_tuple_index, PySem.F.type_tuple_index, mt_idxT hu, tyR_tup h1, fun m' Vs H' Q f rs' rv q => ?_⟩
          cases rv with
          | cons rz t =>
          cases t
          exact ⟨m', _, z, i, _, _, ys', rfl, rfl, (h1.fr f rs1).sq, h2.fr f rs1, rz, hc.1, hc.2.1, hc.2.2.1, e1, q _ H' Fr.refl rs' (Rv.int _) trivial⟩
        · cases e1
      · cases e1
    | _ => cases e
  · have hl : ∃ ys, itL x S1 = some ys := by
      unfold isLst at hk
      split at hk
      · exact absurd ⟨_, rfl⟩ ht
      · obtain ⟨ys, h, _⟩ := Option.map_eq_some_iff.mp hk
        exact ⟨ys, h⟩
    obtain ⟨ys, hl⟩ := hl
    obtain ⟨p, ws, rfl, hp, _⟩ := itL_ok rs1 r1 hl
    cases mt with
    | index =>
      obtain ⟨z, i, rfl, e1, rfl, rfl⟩ := mth_ix e
      refine ⟨"list", "list.index", _, PySem.F.plainAttrs_list, PySem.F.slot_list_index, PySem.F.type_list_index, mt_idxL hu, tyR_lst hp, fun m' Vs H' Q f rs' rv q => ?_⟩
      cases rv with
      | cons rz t =>
      cases t
      have rx := r1.fr f rs1
      have e2 := e1
      unfold idxOf at e2
      split at e2
      · rename_i zs hy
        have hl2 : itL x S2 = some zs := by
          cases x with
          | tmp ob => exact hy
          | val v =>
            cases v with
            | tup ys' => exact absurd ⟨ys', rfl⟩ ht
            | rol ns => cases hl
            | _ => exact hy
        obtain ⟨p', ws', ep, hp', _⟩ := itL_ok rs' rx hl2
        cases ep
        exact ⟨⟨p, ws', rfl, hp'⟩, m', S2, x, _, z, i, rfl, rs', rx, rz, e1, q _ H' Fr.refl rs' (Rv.int _) trivial⟩
      · cases e2
    | append => exact ⟨"list", "list.append", _, PySem.F.plainAttrs_list, PySem.F.slot_list_append, PySem.F.type_list_append, mt_app, tyR_lst hp, fun m' Vs H' Q f rs' rv q => ⟨G, m', S2, x, vs, v, S', rs', r1.fr f rs1, rv, e, q⟩⟩
    | pop => exact ⟨"list", "list.pop", _, PySem.F.plainAttrs_list, PySem.F.slot_list_pop, PySem.F.type_list_pop, mt_pp, tyR_lst hp, fun m' Vs H' Q f rs' rv q => ⟨G, m', S2, x, vs, v, S', rs', r1.fr f rs1, rv, e, q⟩⟩
    | insert => exact ⟨"list", "list.insert", _, PySem.F.plainAttrs_list, PySem.F.slot_list_insert, PySem.F.type_list_insert, mt_ins, tyR_lst hp, fun m' Vs H' Q f rs' rv q => ⟨G, m', S2, x, vs, v, S', rs', r1.fr f rs1, rv, e, q⟩⟩
theorem s_mth (hu : X.A.units + 65 < cLine) {mt : Mth} (ho : PE X o (tE X.K X.w gl kd F co)) (ha : PA X (e :: es) (tL X.K X.w gl kd F ces)) (hbase : attributeBase o mt.nm X.env (eval o X.env) = eval o X.env)
    (hfew : ((backTo cpos (starEach (e :: es) X.env)).all (fun x => !x.1) && (backToKw cpos (keywordEach [] X.env)).all (fun x => x.1.isSome)
      && decide ((e :: es).length + ([] : List Keyword).length + (if ([] : List Keyword).isEmpty then 0 else 1) < 30)) = true)
    (hline : (apos.endLine == cpos.line) = true) (hs : starEach (e :: es) X.env = (false, eval e X.env) :: starEach es X.env) (hplain : (backTo cpos (starEach es X.env)).any (·.1) = false) :
    PE X (.Call (.Attribute o mt.nm apos) (e :: es) [] cpos) (tE X.K X.w gl kd F (.mth mt co ces)) := by
  refine PE_imp (bm_dyn ho ha hbase hfew hline hs hplain) fun σ H Q ⟨G, m, env, S, rs, re, v, S', e, q⟩ => ?_
  unfold evE at e
  obtain ⟨x, S1, e1, e⟩ := bind_inv e
  split at e
  · rename_i k hk
    obtain ⟨vs, S2, e2, e⟩ := bind_inv e
    refine ⟨G, m, env, S, rs, re, x, S1, e1, fun m1 V1 H1 f1 rs1 r1 n1 => ?_⟩
    obtain ⟨T, id, r, h1, h2, h3, h4, h5, h6⟩ := mth_fits hu rs1 r1 hk e
    refine ⟨T, id, r, h1, h2, h3, h4, h5, G, m1, env, S1, vs, S2, rs1, re.fr f1 rs, e2, fun m2 Vs H2 f2 rs2 rv => h6 m2 Vs H2 Q f2 rs2 rv fun V' H3 f3 rs3 r3 n3 => ?_⟩
    have f := f1.trans f2
    exact q m2 V' H3 (f.trans f3) rs3 r3 (n3.back f rs rs2)
  · cases e
theorem s_mth0 (hu : X.A.units + 65 < cLine) {mt : Mth} (ho : PE X o (tE X.K X.w gl kd F co)) (hbase : attributeBase o mt.nm X.env (eval o X.env) = eval o X.env) (hline : (apos.endLine == cpos.line) = true) :
    PE X (.Call (.Attribute o mt.nm apos) [] [] cpos) (tE X.K X.w gl kd F (.mth mt co [])) := by
  refine PE_imp (bm_dyn0 ho hbase hline) fun σ H Q ⟨G, m, env, S, rs, re, v, S', e, q⟩ => ?_
  unfold evE at e
  obtain ⟨x, S1, e1, e⟩ := bind_inv e
  split at e
  · rename_i k hk
    obtain ⟨vs, S2, e2, e⟩ := bind_inv e
    unfold evL at e2
    cases e2
    refine ⟨G, m, env, S, rs, re, x, S1, e1, fun m1 V1 H1 f1 rs1 r1 n1 => ?_⟩
    obtain ⟨T, id, r, h1, h2, h3, h4, h5, h6⟩ := mth_fits hu rs1 r1 hk e
    exact ⟨T, id, r, h1, h2, h3, h4, h5, h6 m1 [] H1 Q Fr.refl rs1 .nil fun V' H3 f3 rs3 r3 n3 => q m1 V' H3 (f1.trans f3) rs3 r3 (n3.back f1 rs rs1)⟩
  · cases e
theorem s_ext (ho : PE X o (tE X.K X.w gl kd F co)) (ha : PE X e (tE X.K X.w gl kd F ce)) (hbase : attributeBase o "extend" X.env (eval o X.env) = eval o X.env)
    (hfew : ((backTo cpos (starEach [e] X.env)).all (fun x => !x.1) && (backToKw cpos (keywordEach [] X.env)).all (fun x => x.1.isSome)
      && decide ([e].length + ([] : List Keyword).length + (if ([] : List Keyword).isEmpty then 0 else 1) < 30)) = true)
    (hline : (apos.endLine == cpos.line) = true) (hs : starEach [e] X.env = (false, eval e X.env) :: starEach [] X.env) :
    PE X (.Call (.Attribute o "extend" apos) [e] [] cpos) (tE X.K X.w gl kd F (.ext co ce)) := by
  refine PE_imp (bm_dyn ho (pa_cons ha pa_nil hs) hbase hfew hline hs rfl) fun σ H Q ⟨G, m, env, S, rs, re, v, S', e, q⟩ => ?_
  unfold evE at e
  obtain ⟨x, S1, e1, e⟩ := bind_inv e
  split at e
  · rename_i k hk
    obtain ⟨y, S2, e2, e⟩ := bind_inv e
    refine ⟨G, m, env, S, rs, re, x, S1, e1, fun m1 V1 H1 f1 rs1 r1 n1 => ?_⟩
    have hl : ∃ a ws, V1 = .ref a ∧ H1 a = some (.lst ws) := by
      unfold isLst at hk
      split at hk
      · exfalso
        cases e
      · obtain ⟨ys, h, _⟩ := Option.map_eq_some_iff.mp hk
        obtain ⟨p, ws, e3, hp, _⟩ := itL_ok rs1 r1 h
        exact ⟨p, ws, e3, hp⟩
    obtain ⟨p, ws, rfl, hp⟩ := hl
    refine ⟨"list", "list.extend", _, PySem.F.plainAttrs_list, PySem.F.slot_list_extend, PySem.F.type_list_extend, mt_ext, tyR_lst hp, G, m1, env, S1, rs1, re.fr f1 rs, y, S2, e2, fun m2 V2 H2 f2 rs2 r2 n2 => ?_⟩
    have f := f1.trans f2
    exact ⟨G, m2, S2, x, y, V2, v, S', rfl, rs2, r1.fr f2 rs1, r2, e, fun V' H3 f3 rs3 r3 n3 => q m2 V' H3 (f.trans f3) rs3 r3 (n3.back f rs rs2)⟩
  · cases e
/-! #### isinstance, written dicts -/
theorem s_isi {ty : Ty} {x tn : Str} {pt : Pos} (hg : Gl X x) (hm : X.mg x = none) (hx : x = "isinstance") (hgt : Gl X tn) (hmt : X.mg tn = none) (hvt : bootBuiltins tn = some (.type ty.nm)) (hnt : tn ≠ "__name__") (hdt : (tn == ("__debug__" : Str)) = false)
    (hs : starEach [e, .Name tn pt] X.env = (false, eval e X.env) :: starEach [.Name tn pt] X.env) (ha : PE X e (tE X.K X.w gl kd F ce)) : PE X (.Call (.Name x p) [e, .Name tn pt] [] pos) (tE X.K X.w gl kd F (.isi ce ty)) := by
  subst hx
  refine PE_imp (pe_callB (isi_E ty) hg hm (by decide +kernel) (pa_cons ha (pa_cons (pe_bltn hgt hmt hvt (v := .ty ty.nm) rfl hnt hdt) pa_nil rfl) hs) (by decide) (by decide) hs rfl) fun σ H Q ⟨G, m, env, S, rs, re, v, S', e, q⟩ => ?_
  unfold evE at e
  obtain ⟨x, S1, e1, e⟩ := bind_inv e
  split at e
  · rename_i k hk
    cases e
    exact ⟨G, m, env, S, rs, re, x, S', e1, fun m1 V1 H1 f1 rs1 r1 n1 => ⟨m1, S', x, V1, k, rfl, rs1, r1, hk, q m1 _ H1 f1 rs1 (Rv.bl _) trivial⟩⟩
  · cases e
/-- a written dict of the module -/
structure KDok (X : Cx) (x : Str) (l : KD) : Prop where
  ex : ∃ (p : Addr) (es : Array DictEntry) (n : Nat), X.mg x = some (.ref p) ∧ KDict X.K X.w p es n ∧ ∀ s v, (s, v) ∈ l → ∃ u V', PySem.W.nsIn X.K p ⟨s.toArray⟩ = some (some u) ∧ L2.RelV V' u ∧ ∀ m H, Rv X.K m H v V'
theorem kdGet_inv {l : KD} {x : EV} {v : PV} (e : kdGet l x = some v) : ∃ s, x = .val (.str s) ∧ (s, v) ∈ l := by
  unfold kdGet at e
  split at e
  · rename_i s
    obtain ⟨p, h1, h2⟩ := Option.map_eq_some_iff.mp e
    have h3 := List.find?_some h1
    have h4 := List.mem_of_find?_eq_some h1
    simp only [decide_eq_true_eq] at h3
    refine ⟨s, rfl, ?_⟩
    rw [← h3, ← h2]
    exact h4
  · cases e
theorem s_kget {x : Str} {j : Nat} {pn : Pos} (hs : PlainIx e) (hg : Gl X x) (hd : (x == ("__debug__" : Str)) = false) (hk : ∀ l, kd[j]? = some l → KDok X x l) (ha : PE X e (tE X.K X.w gl kd F ce)) : PE X (.Subscript (.Name x pn) e pos) (tE X.K X.w gl kd F (.kget j ce)) := by
  cases hj : kd[j]? with
  | none =>
    refine PE_no fun σ H Q ⟨G, m, env, S, rs, re, v, S', e, q⟩ => ?_
    unfold evE at e
    obtain ⟨y, S1, e1, e⟩ := bind_inv e
    rw [hj] at e
    cases e
  | some l =>
    obtain ⟨p, es, n, hm, D, hl⟩ := (hk l hj).ex
    refine PE_imp (pe_ix ix_kdict (pe_glob hg hm (v := .ref p) rfl hd) ha hs) fun σ H Q ⟨G, m, env, S, rs, re, v, S', e, q⟩ => ?_
    unfold evE at e
    obtain ⟨y, S1, e1, e⟩ := bind_inv e
    rw [hj] at e
    split at e
    · rename_i z hz
      cases e
      obtain ⟨s, rfl, hin⟩ := kdGet_inv hz
      obtain ⟨u, V', h1, h2, h3⟩ := hl s z hin
      refine ⟨G, m, env, S, rs, re, _, S', e1, fun m1 V1 H1 f1 rs1 r1 n1 => ?_⟩
      cases r1 with
      | str _ hp =>
      exact ⟨p, _, V', rfl, rfl, ⟨es, n, u, D.at_, D.lit, h1, h2⟩, q m1 V' H1 f1 rs1 (h3 m1 H1) trivial⟩
    · cases e
theorem s_kin {x : Str} {j : Nat} {pn : Pos} {neg : Bool} {op : CmpOp} (hop : op = if neg then .NotIn else .In) (hg : Gl X x) (hd : (x == ("__debug__" : Str)) = false) (hk : ∀ l, kd[j]? = some l → KDok X x l) (ha : PE X e (tE X.K X.w gl kd F ce)) : PE X (.Compare e [op] [.Name x pn] pos) (tE X.K X.w gl kd F (.kin neg j ce)) := by
  cases hj : kd[j]? with
  | none =>
    refine PE_no fun σ H Q ⟨G, m, env, S, rs, re, v, S', e, q⟩ => ?_
    unfold evE at e
    obtain ⟨y, S1, e1, e⟩ := bind_inv e
    rw [hj] at e
    cases e
  | some l =>
    obtain ⟨p, es, n, hm, D, hl⟩ := (hk l hj).ex
    have key : ∀ (f : Bool → Bool) σ H Q, tE X.K X.w gl kd F (.kin neg j ce) σ H Q → (∀ b, f b = if neg then !b else b) → tE X.K X.w gl kd F ce σ H fun x H1 => tC (.ref p) σ H1 fun y H2 => ∃ (z : Str) (r : Option Value), x = .str z ∧ y = .ref p ∧ PySem.W.nsIn X.K p z = some r ∧ Q (.bl (f r.isSome)) H2 := by
      rintro f σ H Q ⟨G, m, env, S, rs, re, v, S', e, q⟩ hf
      unfold evE at e
      obtain ⟨y, S1, e1, e⟩ := bind_inv e
      rw [hj] at e
      split at e
      · rename_i z hz
        cases e
        obtain ⟨s, rfl, hin⟩ := kdGet_inv hz
        obtain ⟨u, V', h1, h2, h3⟩ := hl s z hin
        refine ⟨G, m, env, S, rs, re, _, S', e1, fun m1 V1 H1 f1 rs1 r1 n1 => ?_⟩
        cases r1 with
        | str _ hp =>
        refine ⟨_, some u, rfl, rfl, h1, ?_⟩
        have : f (some u).isSome = !neg := by rw [hf]; cases neg <;> rfl
        rw [this]
        exact q m1 _ H1 f1 rs1 (Rv.bl _) trivial
      · cases e
    cases neg with
    | false =>
      cases hop
      exact PE_imp (pe_cmpR (op_in_kd D) ha (pe_glob hg hm (v := .ref p) rfl hd) rfl) fun σ H Q h => key id σ H Q h fun b => rfl
    | true =>
      cases hop
      exact PE_imp (pe_cmpR (op_notIn_kd D) ha (pe_glob hg hm (v := .ref p) rfl hd) rfl) fun σ H Q h => key not σ H Q h fun b => rfl
end
end Mp
end partM9

section partM10
set_option Elab.async false
set_option linter.all false
set_option maxRecDepth 100000
/-! M10: enumerate over a tuple, for the hand layer. -/
namespace Mp
open PySem PySem.Spec PyProof.Rows L2
open Sem (wp)
abbrev enObj (i : Addr) : Obj := { cls := .type "enumerate", data := .fields #[.none, .bool false, .ref i, rawInt 0, .none, .none] }
set_option maxHeartbeats 1000000 in
theorem meets_enB {u : Value} {ob : Obj} {Hh : Heap → Prop} (B : Begins u ob Hh) :
    Meets (Builtin.«enumerate.__new__» ⟨[.type "enumerate", u], []⟩) (fun _ Z s => Hh s.heap ∧ Z (.ok (.ret (.ref (s.heap.push ob).objs.size))) { s with heap := (s.heap.push ob).push (enObj s.heap.objs.size) }) :=
  .of_wp fun P w A Z s h => by
    obtain ⟨hp, gs, dr, tk, os⟩ := s
    obtain ⟨h1, h⟩ := h
    have hsub := sub_enumerate
    have qq : ∀ {A' : Around} {E : Value → Shared → Prop} {Q : Value → Shared → Prop}, Q (.ref hp.objs.size) ⟨hp.push ob, gs, dr, tk, os⟩ → wpAny (model P w) A' (pyIter u) Q E ⟨hp, gs, dr, tk, os⟩ := fun z => B.iter P w _ _ ⟨hp, gs, dr, tk, os⟩ _ h1 z
    wp_walk using qq
    refine wpAny_stack_any fun st => wpAny_pure ?_
    split
    · rename_i cl _ _ _ _ _
      cases (cl == Value.type "enumerate")
      · wp_walk using qq
        exact ⟨_, rfl, h⟩
      · wp_walk using qq
        exact ⟨_, rfl, h⟩
    · wp_walk using qq
      exact ⟨_, rfl, h⟩
theorem en_begins {P : Program} {w : World} {A : Around} {E : Value → Shared → Prop} {s : Shared} {u : Value} {ob : Obj} {Hh : Heap → Prop} {Q : Value → Shared → Prop} (B : Begins u ob Hh) (h1 : Hh s.heap)
    (h : ∀ g, IsEnum g (s.heap.objs.size + 1) s.heap.objs.size 0 .none → g.get? s.heap.objs.size = some ob → (∀ b x, s.heap.get? b = some x → g.get? b = some x) → Q (.ref (s.heap.objs.size + 1)) { s with heap := g }) :
    wpAny (model P w) A (call (.type "enumerate") [u]) Q E s := by
  refine callType_new F.called_enumerate (by decide) (F.typeCall_enumerate_1 _) (F.newCall_enumerate_1 _) (fun obj => F.args_object_init_2 obj _) F.entry_enumerate_new (meets_enB B) ⟨h1, ?_⟩
  have sz : (s.heap.push ob).objs.size = s.heap.objs.size + 1 := Heap.size_push ..
  show _ ∧ _
  rw [sz]
  have he : IsEnum ((s.heap.push ob).push (enObj s.heap.objs.size)) (s.heap.objs.size + 1) s.heap.objs.size 0 .none := by
    have z := Heap.get?_push_size (s.heap.push ob) (o := enObj s.heap.objs.size) rfl
    rw [sz] at z
    exact z
  exact ⟨⟨_, he, rfl⟩, h _ he (Heap.get?_push_of_some _ (Heap.get?_push_size _ B.free)) fun b x z => Heap.get?_push_of_some _ (Heap.get?_push_of_some _ z)⟩
/-- the tuple at a, each item in a new pair -/
def IteT (K : PySem.W.Frag) (a : Addr) : It where
  go := fun i H => ∃ (xs : List V) (x : V), SqT K H a xs ∧ xs[i]? = some x
  yld := fun i H v H' => ∃ T x, v = .ref T ∧ H T = none ∧ H' = upd H T (.tup [.int (i : Nat), x]) ∧ ∀ xs, SqT K H a xs → xs[i]? = some x
  stop := fun i H => ∃ xs : List V, SqT K H a xs ∧ xs.length ≤ i
theorem turn_enT {P : Program} {w : World} {K : PySem.W.Frag} {ts : List Expr} {kk : Nat} {tp : Pos} (a e it : Addr) :
    Turn P w K (.Tuple ts kk tp) (IteT K a) [e, it] e (fun i h => (∃ old, IsEnum h e it ((i : Nat) : Int) old) ∧ h.IsTupleIter it a i ∧ e ≠ it ∧ a ≠ it ∧ e ≠ a) where
  mem := by simp
  obj := fun i h st b hb => by
    obtain ⟨⟨old, he⟩, ⟨ob, ho, _, hd⟩, _⟩ := st
    have z : b = e ∨ b = it := by simpa using hb
    rcases z with z | z
    · rw [z]; exact ⟨_, he, fun v q => nomatch q⟩
    · rw [z]; exact ⟨ob, ho, fun v q => by rw [hd] at q; cases q⟩
  keep := fun i h h' st k => by
    obtain ⟨⟨old, he⟩, hi, n1, n2⟩ := st
    exact ⟨⟨old, k e (by simp) _ he⟩, hi.at fun o q => k it (by simp) o q, n1, n2⟩
  item := by
    intro X hP hw hK hc i pins s σ H E I hf st hg
    subst hP hw hK
    obtain ⟨⟨old, he⟩, hit, ne1, ne2, ne3⟩ := st
    obtain ⟨xs, x, hq, hx⟩ := hg
    obtain ⟨its, rv, p, hz⟩ := I.tuple hq
    have el : e < s.heap.objs.size := Heap.lt_size he
    have il : it < s.heap.objs.size := by obtain ⟨_, q, _⟩ := hit; exact Heap.lt_size q
    have hl := rv.length
    have hlt : i < its.toArray.size := by
      have := (List.getElem?_eq_some_iff.mp hx).1
      simp only [List.size_toArray]
      omega
    have D := Draws.tuple (prog := X.prog) (w := X.w) (A := X.A) (I.ok.hd hc) it a ne2 its.toArray
    have D1 := Draws.tuple (prog := X.prog) (w := X.w) (A := X.A.in1) (I.ok.hd hc) it a ne2 its.toArray
    refine wpAny_pyNext_enum_itemD D1 he ⟨hit, p⟩ hlt ne1 (by simp [ne1, ne3]) fun u g tk hu ho st' hT hsz hk => ?_
    refine ⟨_, rfl, wpAny_letOwnedTupleGo_enum (s := { s with heap := g, toks := tk + 1 }) ho fun g' he' sb => ?_⟩
    have ru : RelV x u := by
      obtain ⟨u', hu', ru⟩ := rv.get hx
      have hu2 : its[i]? = some u := by simpa using hu
      rw [hu2] at hu'
      cases hu'
      exact ru
    have hT2 : g'.get? s.heap.objs.size = some { cls := .type "tuple", data := .seq #[.int i tk, u] } := (sb.2 _ (Nat.ne_of_gt el)).trans hT
    have new : ObjOk X.prog X.w (upd H s.heap.objs.size (.tup [.int (i : Nat), x])) g' s.heap.objs.size (.tup [.int (i : Nat), x]) :=
      ⟨by show 2 ≤ sizeLine; decide, [.int i tk, u], .cons ⟨_, rfl⟩ (.cons ru .nil), ⟨_, hT2, rfl, _, rfl⟩⟩
    have I1 : Inv X pins σ (upd H s.heap.objs.size (.tup [.int (i : Nat), x])) { s with heap := g', toks := tk + 1 } :=
      I.turnedNew (ch := [e, it]) (fun b ob hb q => (sb.2 b (fun z => hb (by simp [z]))).trans (hk b ob (fun z => hb (by simp [z])) (fun z => hb (by simp [z])) q)) hf (Nat.le_refl _) new
    refine ⟨.ref s.heap.objs.size, _, I1, rfl, ⟨_, x, rfl, I.hok.fresh (Nat.le_refl _), rfl, fun ys hy => by rw [I.tuple_inj hy hq]; exact hx⟩, ⟨⟨u, ?_⟩, st'.1.at fun o q => (sb.2 it (Ne.symm ne1)).trans q, ne1, ne2, ne3⟩, fun b hb => ?_⟩
    · have e1 : ((i + 1 : Nat) : Int) = (i : Int) + 1 := by omega
      rw [e1]
      exact he'
    · have hb' : b < s.heap.objs.size := by
        have z : b = e ∨ b = it := by simpa using hb
        rcases z with z | z
        · rw [z]; exact el
        · rw [z]; exact il
      rw [upd_ne (Nat.ne_of_lt hb')]
      exact (hf b hb).1
  done := by
    intro X hP hw hK hc i pins s σ H E I hf st hg
    subst hP hw hK
    obtain ⟨⟨old, he⟩, hit, ne1, ne2, ne3⟩ := st
    obtain ⟨xs, hq, hx⟩ := hg
    obtain ⟨its, rv, p, hz⟩ := I.tuple hq
    obtain ⟨f0, f1, f2, f3, f4, f5⟩ := hf it (by simp)
    have hl := rv.length
    have hh : X.A.in1.handled = none := I.ok.hd hc
    have hT : s.TypeIs (.ref e) "enumerate" := ⟨_, he, rfl⟩
    unfold pyNext
    refine wpAny_bind (wpAny_attempt (wpAny_callSpecial?_slot (name := Str.ofString "__next__") hT F.slot_enumerate_next
      (wpAny_call_entry F.slot_enumerate_next hT F.entry_enumerate_next ?_ (F.args_enumerate_next_1 _))))
    show wpAny _ _ (field (.ref e) 2 >>= _) _ _ _
    refine wpAny_bind (wpAny_field he rfl (x := .ref it) rfl ?_)
    refine wpAny_bind (wpAny_nextOf_tuple_end (by first | exact hh | exact I.ok.hd hc) hit p (by simp; omega) fun g y hg hy => ?_)
    obtain ⟨ob, ho, hc'⟩ := hy
    refine wpAny_bind (wpAny_isInstance (T := "StopIteration") (b := true) ⟨ob, ho, hc'⟩ isSubtype_stop ?_)
    exact wpAny_pure ⟨rfl, I.turned (t' := s.toks) (fun b o hb q => hg b o hb q) f0 f1 f3 f4 f5⟩
  self := fun A i s Q E st h => let ⟨⟨_, he⟩, _⟩ := st; wpAny_pyIter_enum he h
/-- enumerate of a list or a tuple -/
def iEnA (K : PySem.W.Frag) (ta : TA) : TI := fun σ H R => ta σ H fun vs H1 => ∃ a xs, vs = [.ref a] ∧ ((SqL K H1 a xs ∧ R (Ite K a) H1) ∨ (SqT K H1 a xs ∧ R (IteT K a) H1))
theorem pi_enA {X : Cx} {e : Expr} {ta : TA} {p pos tp : Pos} {ts : List Expr} {kk : Nat} (hg : Gl X "enumerate") (hm : X.mg "enumerate" = none) (ha : PA X [e] ta) (hs : starEach [e] X.env = [(false, eval e X.env)] := by rfl) :
    PI X (.Tuple ts kk tp) (.Call (.Name "enumerate" p) [e] [] pos) (iEnA X.K ta) := by
  refine ⟨fun pins s σ H R I h => ?_⟩
  refine Call_ (ld_blt I hg hm boot_enumerate (PyProof.Rows.callWith_type1 (thn (ha.run pos pins s σ H _ I h) fun us s1 ⟨vs, H1, I1, r1, q1⟩ => ?_) hs rfl))
  obtain ⟨a, xs, ex, q⟩ := q1
  subst ex
  cases r1 with
  | cons r rr =>
    cases rr
    cases r
    have fr : ∀ b ∈ [s1.heap.objs.size + 1, s1.heap.objs.size], FpOk X pins H1 b := fun b hb => by
      have hle : s1.heap.objs.size ≤ b := by
        have z : b = s1.heap.objs.size + 1 ∨ b = s1.heap.objs.size := by simpa using hb
        rcases z with z | z
        · rw [z]; exact Nat.le_add_right _ _
        · rw [z]; exact Nat.le_refl _
      exact I1.fpOk hle (I1.hok.fresh hle)
    rcases q with ⟨hq, q⟩ | ⟨hq, q⟩
    · obtain ⟨its, rv, pl, hz⟩ := I1.list hq
      refine call_enumerate_list pl.isList fun g he hit hsz hk => wpAny_pyIter_enum he ?_
      have I2 : Inv X pins σ H1 { s1 with heap := g } := I1.kept (t' := s1.toks) hk
      exact ⟨_, _, _, _, H1, rfl, I2, turn_enum a (s1.heap.objs.size + 1) s1.heap.objs.size, ⟨⟨.none, he⟩, hit, Nat.succ_ne_self _⟩, fr, q⟩
    · obtain ⟨its, rv, pt, hz⟩ := I1.tuple hq
      have al : a < s1.heap.objs.size := by obtain ⟨_, z, _⟩ := id pt; exact Heap.lt_size z
      refine en_begins (begins_tuple a its.toArray) (show s1.heap.IsTuple a its.toArray from pt) fun g he hit hk => wpAny_pyIter_enum he ?_
      have I2 : Inv X pins σ H1 { s1 with heap := g } := I1.kept (t' := s1.toks) hk
      exact ⟨_, _, _, _, H1, rfl, I2, turn_enT a (s1.heap.objs.size + 1) s1.heap.objs.size, ⟨⟨.none, he⟩, ⟨_, hit, rfl, rfl⟩, Nat.succ_ne_self _, Nat.ne_of_lt al, Ne.symm (Nat.ne_of_lt (Nat.lt_succ_of_lt al))⟩, fr, q⟩
theorem walk_enT {K : PySem.W.Frag} {a : Addr} {xs : List V} : Walk (IteT K a) xs.length (fun H => SqT K H a xs) (YPair (fun i => some (.int (i : Nat))) (fun i => xs[i]?)) := by
  refine ⟨fun i _ hi q => ⟨xs, xs[i], q, by simp [hi]⟩, fun _ q => ⟨xs, q, Nat.le_refl _⟩, fun i H v H' _ q y => ?_⟩
  obtain ⟨T, x, h1, h2, h3, h4⟩ := y
  exact ⟨T, .int (i : Nat), x, h1, h2, h3, rfl, h4 xs q⟩
theorem walk_zipT {K : PySem.W.Frag} {a b : Addr} {xs ys : List V} {n : Nat} (hn : n = min xs.length ys.length) : Walk (RZ.ItzT K a b) n (fun H => SqT K H a xs ∧ SqT K H b ys) (YPair (fun i => xs[i]?) (fun i => ys[i]?)) := by
  subst hn
  refine ⟨fun i _ hi q => ?_, fun _ q => ⟨xs, ys, q.1, q.2, by omega⟩, fun i H v H' _ q y => ?_⟩
  · have h1 : i < xs.length := by omega
    have h2 : i < ys.length := by omega
    exact ⟨xs, ys, xs[i], ys[i], q.1, q.2, by simp [h1], by simp [h2]⟩
  · obtain ⟨T, x, z, h1, h2, h3, h4, h5⟩ := y
    exact ⟨T, x, z, h1, h2, h3, h4 xs q.1, h5 ys q.2⟩
end Mp
end partM10

section partM11
set_option Elab.async false
set_option linter.all false
set_option maxRecDepth 100000
/-! M11: walks, targets, comprehensions. -/
namespace Mp
open PySem PySem.Spec PyProof.Rows L2
/-- a walk's item; a pair that is unpacked at once may be any tuple -/
def Rb (K : PySem.W.Frag) (weak : Bool) (m : MP) (H : Hp) (x : PV) (v : V) : Prop :=
  Rv K m H x v ∨ (weak = true ∧ ∃ xs a vs, x = .tup xs ∧ v = .ref a ∧ SqT K H a vs ∧ RvL K m H xs vs)
def Grd.more (G : Grd) (l : List Nat) : Grd := { G with frz := l ++ G.frz }
theorem Grd.more_no {G : Grd} {l : List Nat} {i : Nat} (h : G.ok i = false) : (G.more l).ok i = false := by
  unfold Grd.ok Grd.more at *
  simp only [Bool.and_eq_false_iff, decide_eq_false_iff_not, Bool.not_eq_false', List.contains_append, Bool.or_eq_true] at *
  rcases h with h | h
  · exact .inl h
  · exact .inr (.inr h)
theorem Grd.more_in {G : Grd} {l : List Nat} {i : Nat} (h : i ∈ l) : (G.more l).ok i = false := by
  unfold Grd.ok Grd.more
  simp [h]
structure WkOk (K : PySem.W.Frag) (w : World) (weak : Bool) (J : It) (G : Grd) (wk : Wk) (m : MP) (H : Hp) : Prop where
  run : ∀ m2 H2, Fr (G.more wk.frz) m H m2 H2 → (∀ i, i < wk.items.length → J.go i H2) ∧ J.stop wk.items.length H2 ∧ ∀ i x v H3, wk.items[i]? = some x → J.yld i H2 v H3 → Same H2 H3 ∧ Rb K weak m2 H3 x v
def tI (K : PySem.W.Frag) (w : World) (gl : List PV) (kd : List KD) (F : FT) (weak : Bool) (ci : CI) : TI := fun σ H R => ∃ G m env S wk S', RS K w m H S ∧ REnv K m H env σ ∧ evI gl kd F G ci env S = .ok wk S' ∧
  ∀ m' J H', Fr G m H m' H' → RS K w m' H' S' → WkOk K w weak J G wk m' H' → R J H'
section
variable {K : PySem.W.Frag} {w : World} {m m' : MP} {H H' : Hp} {S S' : Sto} {G : Grd}
theorem Fr.less {l : List Nat} (f : Fr (G.more l) m H m' H') : Fr G m H m' H' := ⟨f.le, f.un, fun i a h k => f.pr i a h (Grd.more_no k)⟩
/-- a list or a tuple that is walked stays -/
theorem seqW_ok {x : EV} {V' : V} {k : Bool} {wk : Wk} (rs : RS K w m H S) (r : RelE K w m H x V') (e : seqW x S = some (k, wk)) :
    ∃ a vs, V' = .ref a ∧ wk.items.length = vs.length ∧ ∀ (G : Grd) m2 H2, (∀ l ∈ wk.frz, G.ok l = false) → Fr G m H m2 H2 → (if k = true then SqT K H2 a vs else SqL K H2 a vs) ∧ RvL K m2 H2 wk.items vs := by
  cases x with
  | tmp o =>
    cases o with
    | lst xs =>
      cases e
      obtain ⟨a, rfl, ⟨vs, h1, h2⟩, h3⟩ := r
      exact ⟨a, vs, rfl, h2.length, fun G m2 H2 _ f => ⟨SqL.of (f.un a _ h1 h3).1, h2.fr f rs⟩⟩
    | _ => cases e
  | val v =>
    cases v with
    | tup xs =>
      cases e
      cases r with
      | tup h1 h2 => exact ⟨_, _, rfl, h2.length, fun G m2 H2 _ f => ⟨(h1.fr f rs).sq, h2.fr f rs⟩⟩
    | rol ns =>
      cases e
      cases r with
      | rol h1 => exact ⟨_, _, rfl, by simp, fun G m2 H2 _ f => ⟨(h1.fr f rs).sq, rvl_of_ints ns⟩⟩
    | ref l =>
      cases r with
      | ref hm =>
        obtain ⟨o, h1, h2⟩ := rs.here hm
        simp only [seqW, h1] at e
        cases o with
        | lst xs =>
          cases e
          obtain ⟨vs, q1, q2⟩ := h2
          refine ⟨_, vs, rfl, q2.length, fun G m2 H2 n f => ⟨SqL.of ?_, q2.fr f rs⟩⟩
          rw [f.pr l _ hm (n l (by simp))]
          exact q1
        | _ => cases e
    | _ => cases e
theorem wkE_seq {x : EV} {wk : Wk} (e : wkE x S = some wk) : (∃ s, x = .val (.str s) ∧ wk = ⟨chars s, []⟩) ∨ ∃ k, seqW x S = some (k, wk) := by
  cases x with
  | tmp o =>
    cases o with
    | lst xs => cases e; exact .inr ⟨_, rfl⟩
    | _ => cases e
  | val v =>
    cases v with
    | tup xs => cases e; exact .inr ⟨_, rfl⟩
    | rol ns => cases e; exact .inr ⟨_, rfl⟩
    | str s => cases e; exact .inl ⟨s, rfl, rfl⟩
    | ref l =>
      cases h : S[l]? with
      | none => simp [wkE, h] at e
      | some o =>
        cases o with
        | lst xs =>
          simp only [wkE, h] at e
          cases e
          exact .inr ⟨false, by simp [seqW, h]⟩
        | _ => simp [wkE, h] at e
    | _ => cases e
theorem wkok_of {weak : Bool} {J : It} {wk : Wk} {n : Nat} {Gp : Hp → Prop} {Y : Nat → Hp → V → Hp → Prop} (W : Walk J n Gp Y) (hn : n = wk.items.length) (hG : ∀ m2 H2, Fr (G.more wk.frz) m H m2 H2 → Gp H2)
    (hY : ∀ m2 H2 i x v H3, Fr (G.more wk.frz) m H m2 H2 → wk.items[i]? = some x → Y i H2 v H3 → Same H2 H3 ∧ Rb K weak m2 H3 x v) : WkOk K w weak J G wk m H := by
  subst hn
  refine ⟨fun m2 H2 f => ⟨fun i hi => W.goes i H2 hi (hG _ _ f), W.stops H2 (hG _ _ f), fun i x v H3 hx hy => hY m2 H2 i x v H3 f hx (W.yields i H2 v H3 ?_ (hG _ _ f) hy)⟩⟩
  exact (List.getElem?_eq_some_iff.mp hx).1
theorem yAt_ok {weak : Bool} {xs : List PV} {vs : List V} {i : Nat} {x : PV} {v : V} {H3 : Hp} (r : RvL K m H xs vs) (hx : xs[i]? = some x) (y : YAt vs i H v H3) : Same H H3 ∧ Rb K weak m H3 x v := by
  obtain ⟨rfl, hv⟩ := y
  obtain ⟨v', h1, h2⟩ := r.get hx
  rw [hv] at h1
  cases h1
  exact ⟨Same.refl _, .inl h2⟩
theorem enumL_get : ∀ (xs : List PV) (k i : Nat), (enumL k xs)[i]? = (xs[i]?).map fun x => .tup [.int ((k + i : Nat) : Int), x]
  | [], k, i => by simp [enumL]
  | x :: xs, k, 0 => by simp [enumL]
  | x :: xs, k, i + 1 => by
    show (enumL (k + 1) xs)[i]? = _
    rw [enumL_get xs (k + 1) i, show k + 1 + i = k + (i + 1) by omega]
    rfl
theorem enumL_len : ∀ (xs : List PV) (k : Nat), (enumL k xs).length = xs.length
  | [], _ => rfl
  | x :: xs, k => congrArg (· + 1) (enumL_len xs (k + 1))
theorem zipL_get : ∀ (xs ys : List PV) (i : Nat) (z : PV), (zipL xs ys)[i]? = some z → ∃ x y, xs[i]? = some x ∧ ys[i]? = some y ∧ z = .tup [x, y]
  | [], _, _, _, e => by simp [zipL] at e
  | _ :: _, [], _, _, e => by simp [zipL] at e
  | x :: xs, y :: ys, 0, z, e => by simp [zipL] at e; exact ⟨x, y, rfl, rfl, e.symm⟩
  | x :: xs, y :: ys, i + 1, z, e => by
    obtain ⟨x', y', h1, h2, h3⟩ := zipL_get xs ys i z (by simpa [zipL] using e)
    exact ⟨x', y', by simpa using h1, by simpa using h2, h3⟩
theorem zipL_len : ∀ (xs ys : List PV), (zipL xs ys).length = min xs.length ys.length
  | [], _ => by simp [zipL]
  | _ :: _, [] => by simp [zipL]
  | x :: xs, y :: ys => by simp [zipL, zipL_len xs ys]
theorem pair_ok {px py : PV} {T : Addr} {x y : V} (nT : H T = none) (r1 : Rv K m H px x) (r2 : Rv K m H py y) : Same H (upd H T (.tup [x, y])) ∧ Rb K true m (upd H T (.tup [x, y])) (.tup [px, py]) (.ref T) := by
  have sm : Same H (upd H T (.tup [x, y])) := same_upd nT
  exact ⟨sm, .inr ⟨rfl, _, T, [x, y], rfl, rfl, .inl (.inl upd_same), .cons (r1.same sm) (.cons (r2.same sm) .nil)⟩⟩
end
section
variable {X : Cx} {gl : List PV} {kd : List KD} {F : FT} {a b d e tg : Expr} {ca cb cd ce : CE} {pos p : Pos} {weak : Bool}
theorem PI_no {t' : TI} (i : ∀ σ H R, ¬ t' σ H R) : PI X tg e t' := ⟨fun pins s σ H R I q => (i σ H R q).elim⟩
theorem PI_imp {t t' : TI} (h : PI X tg e t) (i : ∀ σ H R, t' σ H R → t σ H R) : PI X tg e t' := ⟨fun pins s σ H R I q => h.run pins s σ H R I (i σ H R q)⟩
theorem PI_or {t t1 t2 : TI} (h1 : PI X tg e t1) (h2 : PI X tg e t2) (i : ∀ σ H R, t σ H R → t1 σ H R ∨ t2 σ H R) : PI X tg e t :=
  ⟨fun pins s σ H R I q => (i σ H R q).elim (h1.run pins s σ H R I) (h2.run pins s σ H R I)⟩
theorem s_iexp (ha : PE X a (tE X.K X.w gl kd F ca)) : PI X tg a (tI X.K X.w gl kd F weak (.exp ca)) := by
  refine PI_or (pi_str ha) (PI_or (t := fun σ H R => iTup X.K (tE X.K X.w gl kd F ca) σ H R ∨ iList X.K (tE X.K X.w gl kd F ca) σ H R) (pi_tup ha) (pi_list ha) fun σ H R h => h) fun σ H R ⟨G, m, env, S, wk, S', rs, re, e, q⟩ => ?_
  unfold evI at e
  obtain ⟨x, S1, e1, e⟩ := bind_inv e
  obtain ⟨e2, rfl⟩ := opt_inv e
  rcases wkE_seq e2 with ⟨s, rfl, rfl⟩ | ⟨k, hk⟩
  · refine .inl ⟨G, m, env, S, rs, re, _, S1, e1, fun m1 V1 H1 f1 rs1 r1 n1 => ?_⟩
    cases r1 with
    | str _ hs =>
    refine ⟨_, rfl, q m1 _ H1 f1 rs1 (wkok_of walk_str (by simp [chars]) (fun _ _ _ => trivial) fun m2 H2 i x v H3 f hx y => ?_)⟩
    obtain ⟨rfl, c, hc, rfl⟩ := y
    have hc' : s[i]? = some c := by simpa using hc
    simp only [chars, List.getElem?_map, hc', Option.map_some, Option.some.injEq] at hx
    subst hx
    refine ⟨Same.refl _, .inl (Rv.str [c] ⟨fun d hd => ?_, by show 1 ≤ SZ; decide⟩)⟩
    have : d = c := by simpa using hd
    subst this
    exact hs.1 _ (List.mem_of_getElem? hc')
  · refine .inr ?_
    cases k with
    | true =>
      refine .inl ⟨G, m, env, S, rs, re, x, S1, e1, fun m1 V1 H1 f1 rs1 r1 n1 => ?_⟩
      obtain ⟨a, vs, rfl, hl, h⟩ := seqW_ok rs1 r1 hk
      have now := h (G.more wk.frz) m1 H1 (fun l hl => Grd.more_in hl) Fr.refl
      exact ⟨a, rfl, ⟨vs, now.1⟩, q m1 _ H1 f1 rs1 (wkok_of walk_tup hl.symm (fun m2 H2 f => (h _ m2 H2 (fun l hl => Grd.more_in hl) f).1) fun m2 H2 i x v H3 f hx y => yAt_ok (h _ m2 H2 (fun l hl => Grd.more_in hl) f).2 hx y)⟩
    | false =>
      refine .inr ⟨G, m, env, S, rs, re, x, S1, e1, fun m1 V1 H1 f1 rs1 r1 n1 => ?_⟩
      obtain ⟨a, vs, rfl, hl, h⟩ := seqW_ok rs1 r1 hk
      have now := h (G.more wk.frz) m1 H1 (fun l hl => Grd.more_in hl) Fr.refl
      exact ⟨a, rfl, ⟨vs, now.1⟩, q m1 _ H1 f1 rs1 (wkok_of walk_list hl.symm (fun m2 H2 f => (h _ m2 H2 (fun l hl => Grd.more_in hl) f).1) fun m2 H2 i x v H3 f hx y => yAt_ok (h _ m2 H2 (fun l hl => Grd.more_in hl) f).2 hx y)⟩
/-- evB of one, of two -/
theorem evB1 {G : Grd} {env : Env} {S S1 : Sto} {x : EV} (e : evE gl kd F G ca env S = .ok x S1) : evB gl kd F G [ca] env S = .ok [x] S1 := by
  unfold evB
  rw [e, R.bind_ok]
  unfold evB
  rfl
theorem evB2 {G : Grd} {env : Env} {S S1 S2 : Sto} {x y : EV} (e : evE gl kd F G ca env S = .ok x S1) (e2 : evE gl kd F G cb env S1 = .ok y S2) : evB gl kd F G [ca, cb] env S = .ok [x, y] S2 := by
  unfold evB
  rw [e, R.bind_ok, evB1 e2]
  rfl
theorem evB3 {G : Grd} {env : Env} {S S1 S2 S3 : Sto} {x y z : EV} (e : evE gl kd F G ca env S = .ok x S1) (e2 : evE gl kd F G cb env S1 = .ok y S2) (e3 : evE gl kd F G cd env S2 = .ok z S3) : evB gl kd F G [ca, cb, cd] env S = .ok [x, y, z] S3 := by
  unfold evB
  rw [e, R.bind_ok, evB2 e2 e3]
  rfl
theorem ints_len (lo : Int) (n : Nat) : (upI lo n).length = n := by simp [upI]
theorem ints_get {lo : Int} {n i : Nat} {x : PV} (h : (upI lo n)[i]? = some x) : x = .int (lo + (i : Nat)) := by
  unfold upI at h
  rw [List.getElem?_map, Option.map_eq_some_iff] at h
  obtain ⟨j, hj, rfl⟩ := h
  rw [List.getElem?_range (by
    have := (List.getElem?_eq_some_iff.mp hj).1
    simpa using this)] at hj
  cases hj
  rfl
theorem rng_wk {K : PySem.W.Frag} {w : World} {G : Grd} {m : MP} {H : Hp} {lo : Int} {n : Nat} : WkOk K w weak (Itr lo n) G ⟨upI lo n, []⟩ m H :=
  wkok_of walk_range (ints_len lo n).symm (fun _ _ _ => trivial) fun m2 H2 i x v H3 f hx y => by
    obtain ⟨rfl, rfl⟩ := y
    rw [ints_get hx]
    exact ⟨Same.refl _, .inl (Rv.int _)⟩
theorem s_rng1 (hg : Gl X "range") (hm : X.mg "range" = none) (hs : starEach [a] X.env = [(false, eval a X.env)]) (ha : PE X a (tE X.K X.w gl kd F ca)) : PI X tg (.Call (.Name "range" p) [a] [] pos) (tI X.K X.w gl kd F weak (.rng1 ca)) := by
  refine PI_imp (pi_range1 hg hm (s_consB (ces := []) hs ha s_nilB) hs) fun σ H R ⟨G, m, env, S, wk, S', rs, re, e, q⟩ => ?_
  unfold evI at e
  obtain ⟨x, S1, e1, e⟩ := bind_inv e
  split at e
  · rename_i j
    obtain ⟨e2, rfl⟩ := opt_inv e
    refine ⟨G, m, env, S, _, S1, rs, re, evB1 e1, fun m1 Vs H1 f1 rs1 r1 => ?_⟩
    obtain ⟨v, rfl, rv⟩ := r1.one
    cases rv
    unfold rngW at e2
    split at e2
    · rename_i hb
      cases e2
      refine ⟨j, rfl, hb.2.2.1, hb.2.2.2.1, q m1 _ H1 f1 rs1 ?_⟩
      have e : (j - 0).toNat = j.toNat := by omega
      rw [e]
      exact rng_wk
    · cases e2
  · cases e
theorem s_rng2 (hg : Gl X "range") (hm : X.mg "range" = none) (hs : starEach [a, b] X.env = [(false, eval a X.env), (false, eval b X.env)]) (hs2 : starEach [b] X.env = [(false, eval b X.env)]) (ha : PE X a (tE X.K X.w gl kd F ca)) (hb : PE X b (tE X.K X.w gl kd F cb)) :
    PI X tg (.Call (.Name "range" p) [a, b] [] pos) (tI X.K X.w gl kd F weak (.rng2 ca cb)) := by
  refine PI_imp (pi_range2 hg hm (s_consB (by rw [hs, hs2]) ha (s_consB (by rw [hs2]; rfl) hb s_nilB)) hs hs2) fun σ H R ⟨G, m, env, S, wk, S', rs, re, e, q⟩ => ?_
  unfold evI at e
  obtain ⟨x, S1, e1, e⟩ := bind_inv e
  obtain ⟨y, S2, e2, e⟩ := bind_inv e
  split at e
  · rename_i i j _
    obtain ⟨e3, rfl⟩ := opt_inv e
    refine ⟨G, m, env, S, _, S2, rs, re, evB2 e1 e2, fun m1 Vs H1 f1 rs1 r1 => ?_⟩
    obtain ⟨v, u, rfl, rv, ru⟩ := r1.two
    cases rv
    cases ru
    unfold rngW at e3
    split at e3
    · rename_i hb
      cases e3
      exact ⟨i, j, rfl, ⟨hb.1, hb.2.1, hb.2.2.1, hb.2.2.2.1⟩, q m1 _ H1 f1 rs1 rng_wk⟩
    · cases e3
  · cases e
theorem s_rng3 (hg : Gl X "range") (hm : X.mg "range" = none) (hs : starEach [a, b, d] X.env = (false, eval a X.env) :: starEach [b, d] X.env) (hs2 : starEach [b, d] X.env = (false, eval b X.env) :: starEach [d] X.env) (hs3 : starEach [d] X.env = [(false, eval d X.env)])
    (ha : PE X a (tE X.K X.w gl kd F ca)) (hb : PE X b (tE X.K X.w gl kd F cb)) (hd : PE X d (tE X.K X.w gl kd F cd)) : PI X tg (.Call (.Name "range" p) [a, b, d] [] pos) (tI X.K X.w gl kd F weak (.rng3 ca cb cd)) := by
  refine PI_imp (pi_range3 hg hm (s_consB hs ha (s_consB hs2 hb (s_consB (by rw [hs3]; rfl) hd s_nilB))) hs (by rw [hs2, hs3]; rfl)) fun σ H R ⟨G, m, env, S, wk, S', rs, re, e, q⟩ => ?_
  unfold evI at e
  obtain ⟨x, S1, e1, e⟩ := bind_inv e
  obtain ⟨y, S2, e2, e⟩ := bind_inv e
  obtain ⟨z, S3, e3, e⟩ := bind_inv e
  split at e
  · rename_i i j k _ _
    split at e
    · rename_i hk
      subst hk
      obtain ⟨e4, rfl⟩ := opt_inv e
      refine ⟨G, m, env, S, _, S3, rs, re, evB3 e1 e2 e3, fun m1 Vs H1 f1 rs1 r1 => ?_⟩
      cases r1 with
      | cons rv r1 =>
      obtain ⟨u, u2, rfl, ru, ru2⟩ := r1.two
      cases rv
      cases ru
      cases ru2
      unfold rngD at e4
      split at e4
      · rename_i hb
        cases e4
        refine ⟨i, j, -1, _, rfl, RgC.neg hb.1 hb.2.1 hb.2.2.1 hb.2.2.2.1, q m1 _ H1 f1 rs1 (wkok_of walk_rangeC (by simp) (fun _ _ _ => trivial) fun m2 H2 n x v H3 f hx y => ?_)⟩
        obtain ⟨rfl, rfl⟩ := y
        have hx' : x = .int (i - (n : Nat)) := by
          simp only [List.getElem?_map, Option.map_eq_some_iff] at hx
          obtain ⟨j', hj, rfl⟩ := hx
          rw [List.getElem?_range (by
            have := (List.getElem?_eq_some_iff.mp hj).1
            simpa using this)] at hj
          cases hj
          rfl
        rw [hx']
        show _ ∧ Rb _ _ _ _ _ (V.int (i + (n : Nat) * (-1 : Int)))
        rw [show i + (n : Nat) * (-1 : Int) = i - (n : Nat) by omega]
        exact ⟨Same.refl _, .inl (Rv.int _)⟩
      · cases e4
    · cases e
  · cases e
theorem s_enum {ts : List Expr} {kk : Nat} {tp : Pos} (hg : Gl X "enumerate") (hm : X.mg "enumerate" = none) (hs : starEach [a] X.env = [(false, eval a X.env)]) (ha : PE X a (tE X.K X.w gl kd F ca)) :
    PI X (.Tuple ts kk tp) (.Call (.Name "enumerate" p) [a] [] pos) (tI X.K X.w gl kd F true (.enum ca)) := by
  refine PI_imp (pi_enA hg hm (s_consB (ces := []) hs ha s_nilB) hs) fun σ H R ⟨G, m, env, S, wk, S', rs, re, e, q⟩ => ?_
  unfold evI at e
  obtain ⟨x, S1, e1, e⟩ := bind_inv e
  split at e
  · rename_i k wk' hk
    cases e
    refine ⟨G, m, env, S, _, S', rs, re, evB1 e1, fun m1 Vs H1 f1 rs1 r1 => ?_⟩
    obtain ⟨v, rfl, rv⟩ := r1.one
    obtain ⟨a, vs, rfl, hl, h⟩ := seqW_ok rs1 rv hk
    have now := h (G.more wk'.frz) m1 H1 (fun l hl => Grd.more_in hl) Fr.refl
    have yl : ∀ m2 H2 i x v H3, Fr (G.more wk'.frz) m1 H1 m2 H2 → (enumL 0 wk'.items)[i]? = some x → YPair (fun i => some (.int (i : Nat))) (fun i => vs[i]?) i H2 v H3 → Same H2 H3 ∧ Rb X.K true m2 H3 x v := fun m2 H2 i x v H3 f hx y => by
      obtain ⟨T, p1, p2, rfl, nT, rfl, h1, h2⟩ := y
      cases h1
      rw [enumL_get, Option.map_eq_some_iff] at hx
      obtain ⟨x', hx', rfl⟩ := hx
      obtain ⟨v', h3, h4⟩ := (h _ m2 H2 (fun l hl => Grd.more_in hl) f).2.get hx'
      have h2' : vs[i]? = some p2 := h2
      rw [h2'] at h3
      cases h3
      have e : ((0 + i : Nat) : Int) = (i : Nat) := by omega
      rw [e]
      exact pair_ok nT (Rv.int _) h4
    refine ⟨a, vs, rfl, ?_⟩
    cases k with
    | true => exact .inr ⟨now.1, q m1 _ H1 f1 rs1 (wkok_of walk_enT (by rw [enumL_len]; exact hl.symm) (fun m2 H2 f => (h _ m2 H2 (fun l hl => Grd.more_in hl) f).1) yl)⟩
    | false => exact .inl ⟨now.1, q m1 _ H1 f1 rs1 (wkok_of walk_enum (by rw [enumL_len]; exact hl.symm) (fun m2 H2 f => (h _ m2 H2 (fun l hl => Grd.more_in hl) f).1) yl)⟩
  · cases e
theorem s_zip {ts : List Expr} {kk : Nat} {tp : Pos} (hg : Gl X "zip") (hm : X.mg "zip" = none) (hs : starEach [a, b] X.env = (false, eval a X.env) :: starEach [b] X.env) (hs2 : starEach [b] X.env = [(false, eval b X.env)]) (ha : PE X a (tE X.K X.w gl kd F ca)) (hb : PE X b (tE X.K X.w gl kd F cb)) :
    PI X (.Tuple ts kk tp) (.Call (.Name "zip" p) [a, b] [] pos) (tI X.K X.w gl kd F true (.zip ca cb)) := by
  refine PI_imp (RZ.pi_zipA hg hm (s_consB hs ha (s_consB (ces := []) hs2 hb s_nilB)) hs (by rw [hs2]; rfl)) fun σ H R ⟨G, m, env, S, wk, S', rs, re, e, q⟩ => ?_
  unfold evI at e
  obtain ⟨x, S1, e1, e⟩ := bind_inv e
  obtain ⟨y, S2, e2, e⟩ := bind_inv e
  split at e
  · rename_i k w1 k' w2 hk hk'
    split at e
    · rename_i ek
      subst ek
      cases e
      refine ⟨G, m, env, S, _, S', rs, re, evB2 e1 e2, fun m1 Vs H1 f1 rs1 r1 => ?_⟩
      obtain ⟨v, u, rfl, rv, ru⟩ := r1.two
      obtain ⟨a, vs, rfl, hl, h⟩ := seqW_ok rs1 rv hk
      obtain ⟨a', us, rfl, hl', h'⟩ := seqW_ok rs1 ru hk'
      have g1 : ∀ l ∈ w1.frz, (G.more (w1.frz ++ w2.frz)).ok l = false := fun l hl => Grd.more_in (List.mem_append_left _ hl)
      have g2 : ∀ l ∈ w2.frz, (G.more (w1.frz ++ w2.frz)).ok l = false := fun l hl => Grd.more_in (List.mem_append_right _ hl)
      have now := h _ m1 H1 g1 Fr.refl
      have now' := h' _ m1 H1 g2 Fr.refl
      have yl : ∀ m2 H2 i x v H3, Fr (G.more (w1.frz ++ w2.frz)) m1 H1 m2 H2 → (zipL w1.items w2.items)[i]? = some x → YPair (fun i => vs[i]?) (fun i => us[i]?) i H2 v H3 → Same H2 H3 ∧ Rb X.K true m2 H3 x v := fun m2 H2 i x v H3 f hx y => by
        obtain ⟨T, p1, p2, rfl, nT, rfl, h1, h2⟩ := y
        obtain ⟨x', y', hx', hy', rfl⟩ := zipL_get _ _ _ _ hx
        obtain ⟨v', h3, h4⟩ := (h _ m2 H2 g1 f).2.get hx'
        obtain ⟨u', h5, h6⟩ := (h' _ m2 H2 g2 f).2.get hy'
        have h1' : vs[i]? = some p1 := h1
        have h2' : us[i]? = some p2 := h2
        rw [h1'] at h3
        cases h3
        rw [h2'] at h5
        cases h5
        exact pair_ok nT h4 h6
      refine ⟨a, a', vs, us, rfl, ?_⟩
      have hlen : min vs.length us.length = (zipL w1.items w2.items).length := by rw [zipL_len, hl, hl']
      cases k with
      | true => exact .inr ⟨now.1, now'.1, q m1 _ H1 f1 rs1 (wkok_of (walk_zipT rfl) hlen (fun m2 H2 f => ⟨(h _ m2 H2 g1 f).1, (h' _ m2 H2 g2 f).1⟩) yl)⟩
      | false => exact .inl ⟨now.1, now'.1, q m1 _ H1 f1 rs1 (wkok_of (walk_zip rfl) hlen (fun m2 H2 f => ⟨(h _ m2 H2 g1 f).1, (h' _ m2 H2 g2 f).1⟩) yl)⟩
    · cases e
  · cases e
end
end Mp
end partM11

section partM12
set_option Elab.async false
set_option linter.all false
set_option maxRecDepth 100000
/-! M12: targets, list comprehensions. -/
namespace Mp
open PySem PySem.Spec PyProof.Rows L2
section
variable {K : PySem.W.Frag} {w : World} {m m' : MP} {H H' : Hp} {S S' : Sto} {G : Grd} {σ : L2.St} {env : Env}
theorem wipe_out {i : Nat} {a : Option V} : ∀ {vs : List Nat} {σ : L2.St}, i ∉ vs → wipe (σ.set i a) vs = (wipe σ vs).set i a
  | [], σ, _ => rfl
  | v :: vs, σ, h => by
    have n1 : i ≠ v := fun z => h (by simp [z])
    have n2 : i ∉ vs := fun z => h (by simp [z])
    show (wipe (σ.set i a) vs).set v none = ((wipe σ vs).set v none).set i a
    rw [wipe_out n2, List.set_comm _ _ n1]
theorem wipe_set {i : Nat} {a : Option V} : ∀ {vs : List Nat} {σ : L2.St}, i ∈ vs → wipe (σ.set i a) vs = wipe σ vs
  | v :: vs, σ, h => by
    unfold wipe
    by_cases e : i ∈ vs
    · rw [wipe_set e]
    · have hv : i = v := by
        rcases List.mem_cons.mp h with h | h
        · exact h
        · exact absurd h e
      subst hv
      rw [wipe_out e, List.set_set]
theorem wipe_twice : ∀ (vs : List Nat) (σ : L2.St), wipe (wipe σ vs) vs = wipe σ vs
  | [], σ => rfl
  | v :: vs, σ => by
    show (wipe ((wipe σ vs).set v none) (v :: vs)) = _
    rw [wipe_set (List.mem_cons_self)]
    show ((wipe (wipe σ vs) vs).set v none) = (wipe σ vs).set v none
    rw [wipe_twice vs σ]
theorem REnv.set {i : Nat} {x : PV} {v : V} (re : REnv K m H env σ) (hi : i < env.length) (r : Rv K m H x v) : REnv K m H (env.set i (some x)) (σ.set i (some v)) := by
  refine ⟨by rw [List.length_set, List.length_set]; exact re.len, fun j y h => ?_⟩
  by_cases e : i = j
  · subst e
    rw [List.getElem?_set_self hi] at h
    cases h
    exact ⟨v, List.getElem?_set_self (by rw [re.len]; exact hi), r⟩
  · rw [List.getElem?_set_ne e] at h ⊢
    exact re.get j y h
theorem REnv.set0 {i : Nat} (re : REnv K m H env σ) : REnv K m H (env.set i none) (σ.set i none) := by
  refine ⟨by rw [List.length_set, List.length_set]; exact re.len, fun j y h => ?_⟩
  by_cases e : i = j
  · subst e
    by_cases hi : i < env.length
    · rw [List.getElem?_set_self hi] at h
      cases h
    · rw [List.getElem?_eq_none (by simpa using hi)] at h
      cases h
  · rw [List.getElem?_set_ne e] at h ⊢
    exact re.get j y h
theorem REnv.wipe (re : REnv K m H env σ) : ∀ vs : List Nat, REnv K m H (wipeE env vs) (L2.wipe σ vs)
  | [] => re
  | v :: vs => (REnv.wipe re vs).set0
end
/-- a target -/
def Tg.tupled : Tg → Bool
  | .var _ => false
  | .tup _ => true
def tG (K : PySem.W.Frag) (t : Tg) : TG := fun v σ H Q => ∃ m env x env', REnv K m H env σ ∧ Rb K t.tupled m H x v ∧ asgT t x env = some env' ∧ ∀ σ', REnv K m H env' σ' → (∀ vs n, Tg.all (fun i => vs.contains i) n t = true → wipe σ' vs = wipe σ vs) → Q σ' H
def tGs (K : PySem.W.Frag) (ts : List Tg) : TGs := fun us σ H Q => ∃ m env xs env', REnv K m H env σ ∧ RvL K m H xs us ∧ asgTs ts xs env = some env' ∧ ∀ σ', REnv K m H env' σ' → (∀ vs n, ts.all (Tg.all (fun i => vs.contains i) n) = true → wipe σ' vs = wipe σ vs) → Q σ' H
theorem lkS_get {l : List Str} {x : Str} {i : Nat} (h : lkS l x = some i) : l[i]? = some x := by
  unfold lkS at h
  obtain ⟨h1, h2, _⟩ := List.findIdx?_eq_some_iff_getElem.mp h
  rw [List.getElem?_eq_getElem h1]
  simpa using h2
/-- what targets ask of the context -/
structure TgOk (c : CC) (X : Cx) : Prop where
  N : X.N = c.N
  nd : c.N.Nodup
  calm : X.calm = true
  loc : ∀ x, locK (c.kind x) = true → Loc X.env.scope x ∧ (X.fn x = true ∨ X.env.scope.names.lookup x = some .local)
section
variable {c : CC} {X : Cx}
theorem cT_form : ∀ {n : Nat} {e : Expr} {t : Tg}, cT c n e = some t → (∃ x p, e = .Name x p) ∨ ∃ es k p, e = .Tuple es k p
  | 0, _, _, h => by cases h
  | n + 1, e, t, h => by
    unfold cT at h
    split at h
    · exact .inl ⟨_, _, rfl⟩
    · exact .inr ⟨_, _, _, rfl⟩
    · cases h
theorem cTs_each {env : PySem.Env} : ∀ {n : Nat} {es : List Expr} {ts : List Tg}, cTs c n es = some ts → (assignEach es env).length = ts.length ∧ (assignEach es env).findIdx? (·.1) = none ∧ es.length = ts.length
  | 0, _, _, h => by cases h
  | n + 1, es, ts, h => by
    unfold cTs at h
    split at h
    · cases h; exact ⟨rfl, rfl, rfl⟩
    · rename_i e r
      split at h
      · rename_i t ts' h1 h2
        cases h
        obtain ⟨q1, q2, q3⟩ := cTs_each (env := env) h2
        have q2' : ∀ y ∈ assignEach r env, ¬ y.1 = true := by
          intro y hy
          have := List.findIdx?_eq_none_iff.mp q2 y hy
          simpa using this
        rcases cT_form h1 with ⟨x, p, rfl⟩ | ⟨es', k, p, rfl⟩
        · refine ⟨congrArg (· + 1) q1, List.findIdx?_eq_none_iff.mpr fun y hy => ?_, congrArg (· + 1) q3⟩
          rcases List.mem_cons.mp (show y ∈ (false, assign (.Name x p) env) :: assignEach r env from hy) with rfl | hy
          · rfl
          · simpa using q2' y hy
        · refine ⟨congrArg (· + 1) q1, List.findIdx?_eq_none_iff.mpr fun y hy => ?_, congrArg (· + 1) q3⟩
          rcases List.mem_cons.mp (show y ∈ (false, assign (.Tuple es' k p) env) :: assignEach r env from hy) with rfl | hy
          · rfl
          · simpa using q2' y hy
      · cases h
theorem PG_imp {e : Expr} {t t' : TG} (h : PG X e t) (i : ∀ v σ H Q, t' v σ H Q → t v σ H Q) : PG X e t' := ⟨fun pins s σ H v u Q I r q => h.run pins s σ H v u Q I r (i v σ H Q q)⟩
theorem PGs_imp {e : List Expr} {t t' : TGs} (h : PGs X e t) (i : ∀ v σ H Q, t' v σ H Q → t v σ H Q) : PGs X e t' := ⟨fun pins s σ H v u Q I r q => h.run pins s σ H v u Q I r (i v σ H Q q)⟩
theorem asgTs_len : ∀ {ts : List Tg} {xs : List PV} {env env' : Env}, asgTs ts xs env = some env' → xs.length = ts.length
  | [], xs, env, env', h => by
    unfold asgTs at h
    split at h
    · rfl
    · cases h
  | t :: ts, xs, env, env', h => by
    unfold asgTs at h
    split at h
    · cases h
    · rename_i x xs
      split at h
      · exact congrArg (· + 1) (asgTs_len h)
      · cases h
mutual
theorem s_tg (ok : TgOk c X) : ∀ (n : Nat) (e : Expr) (t : Tg), cT c n e = some t → PG X e (tG X.K t)
  | 0, _, _, h => by cases h
  | n + 1, e, t, h => by
    unfold cT at h
    split at h
    · rename_i x p
      obtain ⟨i, hi, rfl⟩ := Option.map_eq_some_iff.mp h
      unfold CC.tslot at hi
      split at hi
      · rename_i hk
        obtain ⟨h1, h2⟩ := ok.loc x hk
        refine PG_imp (pg_name (i := i) (by rw [ok.N]; exact ok.nd) (by rw [ok.N]; exact lkS_get hi) h1 h2) fun v σ H Q ⟨m, env, x, env', re, rb, e, q⟩ => ?_
        unfold asgT at e
        split at e
        · rename_i hl
          cases e
          have rv : Rv X.K m H x v := by
            rcases rb with rb | ⟨z, _⟩
            · exact rb
            · cases z
          refine q _ (re.set hl rv) fun vs k hv => wipe_set ?_
          cases k with
          | zero => cases hv
          | succ k => simpa [Tg.all] using hv
        · cases e
      · cases hi
    · rename_i es k p
      obtain ⟨ts, hts, rfl⟩ := Option.map_eq_some_iff.mp h
      obtain ⟨q1, q2, q3⟩ := cTs_each (env := X.env) hts
      refine PG_imp (pg_tup ok.calm (s_tgs ok n es ts hts) q1 q2) fun v σ H Q ⟨m, env, x, env', re, rb, e, q⟩ => ?_
      unfold asgT at e
      split at e
      · rename_i xs
        have key : ∃ a vs, v = .ref a ∧ SqT X.K H a vs ∧ RvL X.K m H xs vs := by
          rcases rb with rb | ⟨_, xs', a, vs, z, h1, h2, h3⟩
          · cases rb with
            | tup h1 h2 => exact ⟨_, _, rfl, h1.sq, h2⟩
          · cases z
            exact ⟨a, vs, h1, h2, h3⟩
        obtain ⟨a, vs, rfl, h1, h2⟩ := key
        refine ⟨a, vs, rfl, h1, by rw [← h2.length, asgTs_len e], m, env, xs, env', re, h2, e, fun σ' re' hw => q σ' re' fun vs' k hv => ?_⟩
        cases k with
        | zero => cases hv
        | succ k => exact hw vs' k hv
      · cases e
    · cases h
theorem s_tgs (ok : TgOk c X) : ∀ (n : Nat) (es : List Expr) (ts : List Tg), cTs c n es = some ts → PGs X es (tGs X.K ts)
  | 0, _, _, h => by cases h
  | n + 1, es, ts, h => by
    unfold cTs at h
    split at h
    · cases h
      refine PGs_imp pgs_nil fun vs σ H Q ⟨m, env, xs, env', re, r, e, q⟩ => ?_
      unfold asgTs at e
      split at e
      · cases e
        cases r
        exact ⟨rfl, q σ re fun _ _ _ => rfl⟩
      · cases e
    · rename_i e r
      split at h
      · rename_i t ts' h1 h2
        cases h
        have hs : (assignEach (e :: r) X.env).map (·.2) = assign e X.env :: (assignEach r X.env).map (·.2) := by
          rcases cT_form h1 with ⟨x, p, rfl⟩ | ⟨es', k, p, rfl⟩ <;> rfl
        refine PGs_imp (pgs_cons (s_tg ok n e t h1) (s_tgs ok n r ts' h2) hs) fun us σ H Q ⟨m, env, xs, env', re, rr, e, q⟩ => ?_
        unfold asgTs at e
        split at e
        · cases e
        · rename_i x xs
          split at e
          · rename_i env1 h3
            cases rr with
            | cons r1 r2 =>
            refine ⟨_, _, rfl, m, env, x, env1, re, .inl r1, h3, fun σ1 re1 hw1 => ⟨m, env1, xs, env', re1, r2, e, fun σ2 re2 hw2 => q σ2 re2 fun vs k hv => ?_⟩⟩
            rw [List.all_cons, Bool.and_eq_true] at hv
            rw [hw2 vs k hv.2, hw1 vs k hv.1]
          · cases e
      · cases h
end
end
/-! #### a tracked list that nobody of the store holds -/
section
variable {K : PySem.W.Frag} {w : World} {m m' : MP} {H H' : Hp} {S S' : Sto} {G : Grd} {D : Addr} {vs zs : List V}
theorem nofrz_lst (h : H D = some (.lst vs)) : ∀ ob x, H D ≠ some (.frz ob x) := fun ob x z => by rw [h] at z; cases z
theorem RvL.updD {xs : List PV} {us : List V} (h : H D = some (.lst vs)) (r : RvL K m H xs us) : RvL K m (upd H D (.lst zs)) xs us := RS.put.rvl_keep (fun t => t.upd (nofrz_lst h)) (fun t => t.upd (nofrz_lst h)) r
theorem Rv.updD {x : PV} {u : V} (h : H D = some (.lst vs)) (r : Rv K m H x u) : Rv K m (upd H D (.lst zs)) x u := RS.put.rv_keep (fun t => t.upd (nofrz_lst h)) (fun t => t.upd (nofrz_lst h)) r
theorem RkL.updD {xs : List (PK × PV)} {us : List (Key × V)} (h : H D = some (.lst vs)) (r : RkL K m H xs us) : RkL K m (upd H D (.lst zs)) xs us := RS.put.rkl_keep (fun t => t.upd (nofrz_lst h)) (fun t => t.upd (nofrz_lst h)) r
theorem RS.updD (rs : RS K w m H S) (h : H D = some (.lst vs)) (n : ∀ l, m l ≠ some D) : RS K w m (upd H D (.lst zs)) S := by
  refine ⟨fun l o e => ?_, rs.inj, rs.dom⟩
  obtain ⟨a, h1, h2⟩ := rs.obj l o e
  have ne : a ≠ D := fun z => n l (by rw [← z]; exact h1)
  refine ⟨a, h1, ?_⟩
  cases o with
  | lst xs => obtain ⟨us, q1, q2⟩ := h2; exact ⟨us, by rw [upd_ne ne]; exact q1, q2.updD h⟩
  | dct kvs => obtain ⟨us, q1, q2⟩ := h2; exact ⟨us, by rw [upd_ne ne]; exact q1, q2.updD h⟩
  | set ns => exact ⟨by rw [upd_ne ne]; exact h2.1, h2.2⟩
theorem Fr.updD {o : HO} (f : Fr G m H m' H') (h : H D = Option.none) (n : ∀ l, m' l ≠ some D) : Fr G m H m' (upd H' D o) := by
  refine ⟨f.le, fun a u q k => ?_, fun l a q k => ?_⟩
  · have ne : a ≠ D := fun z => by rw [z, h] at q; cases q
    obtain ⟨h1, h2⟩ := f.un a u q k
    exact ⟨by rw [upd_ne ne]; exact h1, h2⟩
  · have ne : a ≠ D := fun z => n l (by rw [← z]; exact f.le l a q)
    rw [upd_ne ne]
    exact f.pr l a q k
end
/-- tests, one behind the other -/
def tTs (K : PySem.W.Frag) (w : World) (gl : List PV) (kd : List KD) (F : FT) (ces : List CE) : TT := fun σ H Q => ∃ G m env S k S', RS K w m H S ∧ REnv K m H env σ ∧ evT gl kd F G ces env S = .ok k S' ∧ ∀ m' H', Fr G m H m' H' → RS K w m' H' S' → Q k H'
section
variable {X : Cx} {gl : List PV} {kd : List KD} {F : FT} {e elt tg iter : Expr} {ce : CE} {pos : Pos}
theorem PTs_imp {e : List Expr} {t t' : TT} (h : PTs X e t) (i : ∀ σ H Q, t' σ H Q → t σ H Q) : PTs X e t' := ⟨fun pins s σ H Q I q => h.run pins s σ H Q I (i σ H Q q)⟩
theorem s_ts0 : PTs X [] (tTs X.K X.w gl kd F []) := PTs_imp pts_nil fun σ H Q ⟨G, m, env, S, k, S', rs, re, e, q⟩ => by
  unfold evT at e
  cases e
  exact q m H Fr.refl rs
theorem s_ts1 (h : PT X e (tT X.K X.w gl kd F ce)) : PTs X [e] (tTs X.K X.w gl kd F [ce]) := PTs_imp (pts_one h) fun σ H Q ⟨G, m, env, S, k, S', rs, re, e, q⟩ => by
  unfold evT at e
  obtain ⟨x, S1, e1, e⟩ := bind_inv e
  split at e
  · rename_i k' hk
    refine ⟨G, m, env, S, k', S1, rs, re, by unfold tst; rw [e1, R.bind_ok, hk]; rfl, fun m1 H1 f1 rs1 => ?_⟩
    cases k' with
    | true =>
      rw [if_pos rfl] at e
      unfold evT at e
      cases e
      exact q m1 H1 f1 rs1
    | false => cases e; exact q m1 H1 f1 rs1
  · cases e
theorem s_val (h : PE X e (tE X.K X.w gl kd F ce)) : PE X e (tV X.K X.w gl kd F ce) := PE_imp h fun σ H Q ⟨G, m, env, S, v, S', rs, re, e, q⟩ => by
  obtain ⟨x, S1, e1, e2⟩ := bind_inv e
  refine ⟨G, m, env, S, rs, re, x, S1, e1, fun m1 V1 H1 f1 rs1 r1 n1 => ?_⟩
  obtain ⟨m2, f2, rs2, r2, _⟩ := mat_ok rs f1 rs1 r1 n1 e2
  exact q m2 V1 H1 f2 rs2 r2
theorem lc_imp {K : PySem.W.Frag} {w : World} {own : List Nat} {t : Tg} {it : CI} {cifs : List CE} {n : Nat} (hall : Tg.all (fun i => own.contains i) n t = true) {σ : L2.St} {H : Hp} {Q : VK} (h : tE K w gl kd F (.lc ce t it cifs own) σ H Q) :
    tLc (tI K w gl kd F t.tupled it) (tG K t) (tTs K w gl kd F cifs) (tV K w gl kd F ce) own σ H Q := by
  obtain ⟨G, m, env, S, rs, re, v, S', e, q⟩ := h
  unfold evE at e
  obtain ⟨wk, S1, e1, e⟩ := bind_inv e
  obtain ⟨vs, S2, e2, e⟩ := bind_inv e
  split at e
  · rename_i hlen
    cases e
    refine ⟨G, m, env, S, wk, S1, rs, re, e1, fun m1 J H1 f1 rs1 wo D nD => ?_⟩
    generalize hb : (fun x S2 => match asgT t x (wipeE env own) with
        | none => R.err
        | some σ1 => (evT gl kd F { G with frz := wk.frz ++ G.frz } cifs σ1 S2).bind fun k S3 => if k then ((evE gl kd F { G with frz := wk.frz ++ G.frz } ce σ1 S3).bind mat).bind fun v S4 => .ok (some v) S4 else .ok none S3 : PV → Sto → R (Option PV)) = b at e2
    let Pv : Nat → Hp → Prop := fun i H' => ∃ m2 S2' acc vacc rest, Fr (G.more wk.frz) m1 H1 m2 H' ∧ RS K w m2 H' S2' ∧ lcF b (wk.items.drop i) S2' = .ok rest S' ∧ vs = acc ++ rest ∧ H' D = some (.lst vacc) ∧ (∀ l, m2 l ≠ some D) ∧ RvL K m2 H' acc vacc
    refine ⟨fun i k H' => k = wk.items.length - i ∧ i ≤ wk.items.length ∧ Pv i H', ⟨_, rfl, Nat.zero_le _, ?_⟩, ?_⟩
    · have sm : Same H1 (upd H1 D (.lst [])) := same_upd nD
      exact ⟨m1, S1, [], [], vs, Fr.of_same sm rs1, rs1.same sm, e2, rfl, upd_same, rs1.free nD, .nil⟩
    · rintro i k H' ⟨rfl, hi, m2, S2', acc, vacc, rest, f2, rs2, el, hv, hD, nm, ra⟩
      have run := wo.run m2 H' f2
      by_cases hlt : i < wk.items.length
      · refine .inr ⟨run.1 i hlt, Pv (i + 1), fun H'' p => ⟨_, by omega, rfl, hlt, p⟩, fun x H3 y => ?_⟩
        obtain ⟨sm, rb⟩ := run.2.2 i _ x H3 (List.getElem?_eq_getElem hlt) y
        rw [List.drop_eq_getElem_cons hlt] at el
        unfold lcF at el
        obtain ⟨o, S3, el1, el⟩ := bind_inv el
        obtain ⟨r', S4, el2, el3⟩ := bind_inv el
        have hb' := congrFun (congrFun hb wk.items[i]) S2'
        rw [el1] at hb'
        split at hb'
        · cases hb'
        · rename_i env1 hasg
          obtain ⟨k, S5, et, hb'⟩ := bind_inv hb'
          have rs2' := rs2.same sm
          have re2 : REnv K m2 H3 env σ := ((re.fr f1 rs).fr f2 rs1).same sm
          refine ⟨m2, _, _, env1, re2.wipe _, rb, hasg, fun σ1 re1 hw => ⟨(hw _ n hall).trans (wipe_twice _ _), G.more wk.frz, m2, env1, S2', k, S5, rs2', re1, et, fun m3 H4 f3 rs3 => ?_⟩⟩
          have D4 : H4 D = some (.lst vacc) ∧ ∀ l, m3 l ≠ some D := f3.un D _ (sm _ _ hD) nm
          have F4 : Fr (G.more wk.frz) m1 H1 m3 H4 := (f2.trans (Fr.of_same sm rs2)).trans f3
          cases k with
          | false =>
            show (if (false : Bool) = true then _ else _)
            rw [if_neg (by decide)] at hb' ⊢
            cases hb'
            cases el3
            exact ⟨m3, S3, acc, vacc, rest, F4, rs3, el2, hv, D4.1, D4.2, (ra.same sm).fr f3 rs2'⟩
          | true =>
            show (if (true : Bool) = true then _ else _)
            rw [if_pos rfl] at hb' ⊢
            obtain ⟨z, S6, ee, hb'⟩ := bind_inv hb'
            cases hb'
            cases el3
            refine ⟨G.more wk.frz, m3, env1, S5, z, S3, rs3, re1.fr f3 rs2', ee, fun m4 y' H5 f4 rs4 rz => ?_⟩
            have D5 := f4.un D _ D4.1 D4.2
            have F5 := F4.trans f4
            refine ⟨vacc, D5.1, ?_, m4, S3, acc ++ [z], vacc ++ [y'], r', F5.updD nD D5.2, rs4.updD D5.1 D5.2, el2, by rw [hv]; simp, upd_same, D5.2, ?_⟩
            · rw [← SZ_eq, ← ra.length]
              have : acc.length < vs.length := by rw [hv]; simp
              omega
            · exact ((((ra.same sm).fr f3 rs2').fr f4 rs3).append (.cons rz .nil)).updD D5.1
      · have e : i = wk.items.length := by omega
        subst e
        refine .inl ⟨run.2.1, ?_⟩
        rw [List.drop_length] at el
        unfold lcF at el
        cases el
        refine q m2 (.ref D) H' (f1.trans f2.less) rs2 ⟨D, rfl, ⟨vacc, hD, ?_⟩, nm⟩ fun a ea => ?_
        · rw [hv, List.append_nil]; exact ra
        · cases ea
          exact f1.none rs rs1 nD
  · cases e
theorem s_lc {ifs : List Expr} {scope : Scope} {own : List (Str × Nat)} {t : Tg} {it : CI} {cifs : List CE} (hc : X.calm = true) (hN : X.N.Nodup) (hi : PI X tg iter (tI X.K X.w gl kd F t.tupled it)) (ok : BlkOk X.N X.env.scope scope own)
    (hg : ∀ (s : Shared) (H : Hp) (C : Addr) (cl : List (Str × Addr)) (fp : List Addr), PG (X.blk s H scope (compEnvC scope cl C X.env) fp) tg (tG X.K t))
    (ht : ∀ (s : Shared) (H : Hp) (C : Addr) (cl : List (Str × Addr)) (fp : List Addr), PTs (X.blk s H scope (compEnvC scope cl C X.env) fp) ifs (tTs X.K X.w gl kd F cifs))
    (he : ∀ (s : Shared) (H : Hp) (C : Addr) (cl : List (Str × Addr)) (fp : List Addr), PE (X.blk s H scope (compEnvC scope cl C X.env) fp) elt (tV X.K X.w gl kd F ce))
    (hs : ∀ x, foldedSetIterable iter X.env x = pure x) {n : Nat} (hall : Tg.all (fun i => (own.map (·.2)).contains i) n t = true) :
    PE X (.ListComp elt [⟨tg, iter, ifs, 0⟩] scope pos) (tE X.K X.w gl kd F (.lc ce t it cifs (own.map (·.2)))) := by
  exact PE_imp (pe_lc hc hN hi ok hg ht he hs) fun σ H Q h => lc_imp hall h
end
end Mp
end partM12

section partM13
set_option Elab.async false
set_option linter.all false
set_option maxRecDepth 100000
/-! M13: calls of the text's own defs; tests. -/
namespace Mp
open PySem PySem.Spec PyProof.Rows L2
/-- what a def promises -/
def spF (K : PySem.W.Frag) (w : World) (P : Pg) (k i n : Nat) : Sp := fun vs H Q _ => vs.length = n ∧ ∃ G m S as, RS K w m H S ∧ RvL K m H as vs ∧ Aft K w G m H (callF P k G i as S) Q
section
variable {X : Cx} {P : Pg} {k i n : Nat} {f : Addr} {fd : FuncData} {ps ks : List Str} {x : Str} {p pos : Pos} {e : Expr} {es : List Expr} {ces cks : List CE} {kws : List Keyword}
theorem s_call (F : FnOk X.prog X.w X.K X.mg X.base CX0 k f fd ps (spF X.K X.w P k i n)) (hn : n = ps.length) (hr : Room k X.A) (hg : Gl X x) (hm : X.mg x = some (.ref f)) (hk : PySem.W.keepIn X.K (.ref f) = true) (hb : Binds X.K fd ps [])
    (hdb : (x == ("__debug__" : Str)) = false) (he : starEach (e :: es) X.env = (false, eval e X.env) :: starEach es X.env) (hpl : (backTo pos (starEach es X.env)).any (·.1) = false)
    (hl : n = ces.length) (ha : PA X (e :: es) (tL X.K X.w P.gl P.kd (callF P k) ces)) : PE X (.Call (.Name x p) (e :: es) [] pos) (tE X.K X.w P.gl P.kd (callF P k) (.call i ces)) := by
  refine PE_imp (pe_call F hr hg hm hk hb .nil (E := E0) pass0 ha hdb he hpl) fun σ H Q ⟨G, m, env, S, rs, re, v, S', e, q⟩ => ?_
  unfold evE at e
  obtain ⟨vs, S1, e1, e⟩ := bind_inv e
  refine ⟨G, m, env, S, vs, S1, rs, re, e1, fun m1 Vs H1 f1 rs1 r1 => ⟨?_, G, m1, S1, vs, rs1, by rw [List.append_nil]; exact r1, v, S', e, fun m2 V2 H2 f2 rs2 r2 n2 => q m2 V2 H2 (f1.trans f2) rs2 r2 (n2.back f1 rs rs1)⟩⟩
  rw [List.append_nil, ← r1.length, hl]
  exact evL_len e1
where
  evL_len {G : Grd} {gl : List PV} {kd : List KD} {F : FT} : ∀ {ces : List CE} {env : Env} {S S' : Sto} {vs : List PV}, evL gl kd F G ces env S = .ok vs S' → vs.length = ces.length
    | [], _, _, _, _, h => by unfold evL at h; cases h; rfl
    | c :: cs, _, _, _, _, h => by
      unfold evL at h
      obtain ⟨v, S2, e1, h⟩ := bind_inv h
      obtain ⟨ws, S3, e2, h⟩ := bind_inv h
      cases h
      exact congrArg (· + 1) (evL_len e2)
theorem s_call0 (F : FnOk X.prog X.w X.K X.mg X.base CX0 k f fd ps (spF X.K X.w P k i n)) (hr : Room k X.A) (hg : Gl X x) (hm : X.mg x = some (.ref f)) (hk : PySem.W.keepIn X.K (.ref f) = true) (hb : Binds X.K fd ps [])
    (hdb : (x == ("__debug__" : Str)) = false) (hl : n = 0) : PE X (.Call (.Name x p) [] [] pos) (tE X.K X.w P.gl P.kd (callF P k) (.call i [])) := by
  refine PE_imp (pe_call0 F hr hg hm hk hb .nil (E := E0) pass0 hdb) fun σ H Q ⟨G, m, env, S, rs, re, v, S', e, q⟩ => ?_
  unfold evE at e
  obtain ⟨vs, S1, e1, e⟩ := bind_inv e
  unfold evL at e1
  cases e1
  exact ⟨hl.symm, G, m, S, [], rs, .nil, v, S', e, q⟩
/-- positional values, then keywords', in the parameters' order; nothing where the numbers are others -/
def gKW {α : Type} (a b : Nat) (perm : List Nat) (us ws : List α) : List α := if us.length = a ∧ ws.length = b then permL (us ++ ws) perm else []
def tLK (K : PySem.W.Frag) (w : World) (gl : List PV) (kd : List KD) (F : FT) (ces : List CE) : TA := tL K w gl kd F ces
theorem PK_imp {kws : List Keyword} {t t' : TA} (h : L2.PK X kws t) (i : ∀ σ H Q, t' σ H Q → t σ H Q) : L2.PK X kws t' := ⟨fun pos pins s σ H Q I q => h.run pos pins s σ H Q I (i σ H Q q)⟩
theorem s_knil {gl : List PV} {kd : List KD} {F : FT} : L2.PK X [] (tL X.K X.w gl kd F []) := PK_imp pk_nil fun σ H Q ⟨G, m, env, S, vs, S', rs, re, e, q⟩ => by
  unfold evL at e
  cases e
  exact q m [] H Fr.refl rs .nil
theorem s_kcons {gl : List PV} {kd : List KD} {F : FT} {nm : Option Str} {kpos : Pos} {ca : CE} {ces : List CE} (ha : PE X e (tE X.K X.w gl kd F ca)) (hr : L2.PK X kws (tL X.K X.w gl kd F ces)) : L2.PK X (⟨nm, e, kpos⟩ :: kws) (tL X.K X.w gl kd F (ca :: ces)) := by
  refine PK_imp (pk_cons ha hr) fun σ H Q ⟨G, m, env, S, vs, S', rs, re, e, q⟩ => ?_
  unfold evL at e
  obtain ⟨v, S2, e1, e⟩ := bind_inv e
  obtain ⟨x, S1, e0, e1⟩ := bind_inv e1
  obtain ⟨ws, S3, e2, e⟩ := bind_inv e
  cases e
  refine ⟨G, m, env, S, rs, re, x, S1, e0, fun m1 V1 H1 f1 rs1 r1 n1 => ?_⟩
  obtain ⟨m2, f2, rs2, r2, _⟩ := mat_ok rs f1 rs1 r1 n1 e1
  exact ⟨G, m2, env, S2, ws, S', rs2, re.fr f2 rs, e2, fun m3 Vs H3 f3 rs3 r3 => q m3 _ H3 (f2.trans f3) rs3 (.cons (r2.fr f3 rs2) r3)⟩
theorem permL_rvl {K : PySem.W.Frag} {m : MP} {H : Hp} {xs : List PV} {vs : List V} (r : RvL K m H xs vs) : ∀ perm : List Nat, RvL K m H (permL xs perm) (permL vs perm)
  | [] => .nil
  | j :: js => by
    unfold permL
    rw [List.filterMap_cons, List.filterMap_cons]
    cases h : xs[j]? with
    | none =>
      have : vs[j]? = none := by
        rw [List.getElem?_eq_none_iff] at h ⊢
        rw [← r.length]
        exact h
      rw [this]
      exact permL_rvl r js
    | some y =>
      obtain ⟨v, h1, h2⟩ := r.get h
      rw [h1]
      exact .cons h2 (permL_rvl r js)
theorem s_callK {perm : List Nat} (F : FnOk X.prog X.w X.K X.mg X.base CX0 k f fd ps (spF X.K X.w P k i n)) (hr : Room k X.A) (hg : Gl X x) (hm : X.mg x = some (.ref f)) (hk : PySem.W.keepIn X.K (.ref f) = true)
    (hb : KBinds X.K fd ps ks (gKW ces.length cks.length perm) (gKW ces.length cks.length perm)) (hdb : (x == ("__debug__" : Str)) = false) (hp : n = perm.length) (hpe : ∀ j ∈ perm, j < ces.length + cks.length)
    (hln : ces.length = es.length) (hs : ∀ e' r, es = e' :: r → starEach (e' :: r) X.env = (false, eval e' X.env) :: starEach r X.env) (hall : (backToKw pos (keywordEach kws X.env)).all (·.1.isSome) = true) (hks : (backToKw pos (keywordEach kws X.env)).filterMap (·.1) = ks)
    (hpl : ((backTo pos (starEach es X.env)).any (·.1) || (backToKw pos (keywordEach kws X.env)).any (·.1.isNone)) = false)
    (ha : PA X es (tL X.K X.w P.gl P.kd (callF P k) ces)) (hkw : L2.PK X kws (tL X.K X.w P.gl P.kd (callF P k) cks)) : PE X (.Call (.Name x p) es kws pos) (tE X.K X.w P.gl P.kd (callF P k) (.callK i ces cks perm)) := by
  have plen : ∀ {α : Type} (l : List α) (js : List Nat), (∀ j ∈ js, j < l.length) → (permL l js).length = js.length := by
    intro α l js
    induction js with
    | nil => intro _; rfl
    | cons j r ih =>
      intro h
      have hj := h j List.mem_cons_self
      show (List.filterMap (fun i => l[i]?) (j :: r)).length = _
      rw [List.filterMap_cons, List.getElem?_eq_getElem hj]
      exact congrArg (· + 1) (ih fun z hz => h z (List.mem_cons_of_mem _ hz))
  have fin : ∀ {G : Grd} {m m1 m2 : MP} {env : Env} {S S1 S2 : Sto} {H H1 H2 : Hp} {us ws : List PV} {Us Ws : List V} {Q : VK} {v : EV} {S' : Sto}, RS X.K X.w m H S → evL P.gl P.kd (callF P k) G ces env S = .ok us S1 → Fr G m H m1 H1 → RS X.K X.w m1 H1 S1 → RvL X.K m1 H1 us Us →
      evL P.gl P.kd (callF P k) G cks env S1 = .ok ws S2 → Fr G m1 H1 m2 H2 → RS X.K X.w m2 H2 S2 → RvL X.K m2 H2 ws Ws → callF P k G i (permL (us ++ ws) perm) S2 = .ok v S' → (∀ m' V' H', Fr G m H m' H' → RS X.K X.w m' H' S' → RelE X.K X.w m' H' v V' → FrE H v V' → Q V' H') →
      spF X.K X.w P k i n (gKW ces.length cks.length perm Us Ws) H2 Q E0 := by
    intro G m m1 m2 env S S1 S2 H H1 H2 us ws Us Ws Q v S' rs e1 f1 rs1 r1 e2 f2 rs2 r2 e q
    have l1 := s_call.evL_len e1
    have l2 := s_call.evL_len e2
    have g : gKW ces.length cks.length perm Us Ws = permL (Us ++ Ws) perm := by
      unfold gKW
      rw [if_pos ⟨by rw [← r1.length, l1], by rw [← r2.length, l2]⟩]
    have r := permL_rvl ((r1.fr f2 rs1).append r2) perm
    rw [g]
    refine ⟨?_, G, m2, S2, _, rs2, r, v, S', e, fun m3 V3 H3 f3 rs3 r3 n3 => q m3 V3 H3 ((f1.trans f2).trans f3) rs3 r3 (n3.back (f1.trans f2) rs rs2)⟩
    rw [hp]
    refine plen _ _ fun j hj => ?_
    have := hpe j hj
    rw [List.length_append, ← r1.length, ← r2.length, l1, l2]
    exact this
  cases es with
  | nil =>
    refine PE_imp (t := tCallK (spF X.K X.w P k i n) (gKW ces.length cks.length perm) E0 tNil (tL X.K X.w P.gl P.kd (callF P k) cks)) ⟨fun pins s σ H Q I h => ?_⟩ fun σ H Q ⟨G, m, env, S, rs, re, v, S', e, q⟩ => ?_
    · refine wpAny_Call_Name_kw (ld_glob I hg hm ?_ hdb)
      refine PySem.W.callWith_KW0 (h₀ := X.base) I.ok.mod.kin hk hall ?_ hpl
      refine thn (hkw.run pos pins s σ H _ I h) fun ws s2 ⟨zs, H2, I2, rz, q2⟩ => ⟨I2.kIn, ?_⟩
      rw [hks]
      exact run_fnk F hr hb pass0 I2 .nil rz q2
    · unfold evE at e
      obtain ⟨us, S1, e1, e⟩ := bind_inv e
      obtain ⟨ws, S2, e2, ef⟩ := bind_inv e
      have key : us = [] ∧ S1 = S := by
        cases ces with
        | nil => unfold evL at e1; cases e1; exact ⟨rfl, rfl⟩
        | cons c cs => cases hln
      obtain ⟨rfl, rfl⟩ := key
      exact ⟨G, m, env, S1, ws, S2, rs, re, e2, fun m2 Ws H2 f2 rs2 r2 => fin rs e1 Fr.refl rs .nil e2 f2 rs2 r2 ef q⟩
  | cons e es =>
    refine PE_imp (pe_callK F hr hg hm hk hb (E := E0) pass0 ha hkw hall hks hdb (hs e es rfl) hpl) fun σ H Q ⟨G, m, env, S, rs, re, v, S', e, q⟩ => ?_
    unfold evE at e
    obtain ⟨us, S1, e1, e⟩ := bind_inv e
    obtain ⟨ws, S2, e2, e⟩ := bind_inv e
    exact ⟨G, m, env, S, us, S1, rs, re, e1, fun m1 Us H1 f1 rs1 r1 => ⟨G, m1, env, S1, ws, S2, rs1, re.fr f1 rs, e2, fun m2 Ws H2 f2 rs2 r2 => fin rs e1 f1 rs1 r1 e2 f2 rs2 r2 e q⟩⟩
end
/-! #### tests -/
section
variable {X : Cx} {gl : List PV} {kd : List KD} {F : FT} {a b d e : Expr} {ca cb cd ce : CE} {pos : Pos}
/-- any expression whose test is its value's truth -/
theorem t_plain (h : PE X e (tE X.K X.w gl kd F ce)) (he : ∀ whole, isTrue e X.env whole = (do let v ← whole; standAt e.pos; holding [v] (truthy v))) : PT X e (tT X.K X.w gl kd F ce) :=
  PT_imp (pt_truth h he) fun σ H Q ⟨G, m, env, S, k, S', rs, re, e, q⟩ => by
    unfold tst at e
    obtain ⟨x, S1, e1, e⟩ := bind_inv e
    obtain ⟨e2, rfl⟩ := opt_inv e
    exact ⟨G, m, env, S, rs, re, x, S1, e1, fun m1 V1 H1 f1 rs1 r1 n1 => ⟨k, tru_E rs1 r1 e2, q m1 H1 f1 rs1⟩⟩
theorem t_not (h : PT X a (tT X.K X.w gl kd F ca)) : PT X (.UnaryOp .Not a pos) (tT X.K X.w gl kd F (.not ca)) :=
  PT_imp (pt_not h) fun σ H Q ⟨G, m, env, S, k, S', rs, re, e, q⟩ => by
    unfold tst at e
    obtain ⟨x, S1, e1, e⟩ := bind_inv e
    obtain ⟨e2, rfl⟩ := opt_inv e
    unfold evE at e1
    obtain ⟨y, S2, e3, e1⟩ := bind_inv e1
    split at e1
    · rename_i k' hk
      cases e1
      refine ⟨G, m, env, S, k', S1, rs, re, by unfold tst; rw [e3, R.bind_ok, hk]; rfl, fun m1 H1 f1 rs1 => ?_⟩
      cases e2
      exact q m1 H1 f1 rs1
    · cases e1
theorem PW_imp {e : Expr} {t t' : TT} (h : PW X e t) (i : ∀ σ H Q, t' σ H Q → t σ H Q) : PW X e t' := ⟨fun wh pins s σ H Q I q => h.run wh pins s σ H Q I (i σ H Q q)⟩
theorem tst_val {G : Grd} {env : Env} {S S' : Sto} {x : EV} {k : Bool} (e1 : evE gl kd F G ca env S = .ok x S') (h : tru x S' = some k) : tst gl kd F G ca env S = .ok k S' := by
  unfold tst
  rw [e1, R.bind_ok, h]
  rfl
theorem t_and {rest : List Expr} (ha : PT X a (tT X.K X.w gl kd F ca)) (hb : PW X (.BoolOp .And (b :: rest) pos) (tT X.K X.w gl kd F cb)) : PW X (.BoolOp .And (a :: b :: rest) pos) (tT X.K X.w gl kd F (.and ca cb)) :=
  PW_imp (pw_and ha hb) fun σ H Q ⟨G, m, env, S, k, S', rs, re, e, q⟩ => by
    unfold tst at e
    obtain ⟨x, S1, e1, e⟩ := bind_inv e
    unfold evE at e1
    obtain ⟨y, S2, e3, e1⟩ := bind_inv e1
    split at e1
    · rename_i k' hk
      refine ⟨G, m, env, S, k', S2, rs, re, tst_val e3 hk, fun m1 H1 f1 rs1 => ?_⟩
      cases k' with
      | true =>
        refine ⟨G, m1, env, S2, k, S', rs1, re.fr f1 rs, ?_, fun m2 H2 f2 rs2 => q m2 H2 (f1.trans f2) rs2⟩
        unfold tst
        rw [show evE gl kd F G cb env S2 = .ok x S1 from e1, R.bind_ok]
        exact e
      | false =>
        cases e1
        obtain ⟨e2, rfl⟩ := opt_inv e
        rw [hk] at e2
        cases e2
        exact q m1 H1 f1 rs1
    · cases e1
theorem t_or {rest : List Expr} (ha : PT X a (tT X.K X.w gl kd F ca)) (hb : PW X (.BoolOp .Or (b :: rest) pos) (tT X.K X.w gl kd F cb)) : PW X (.BoolOp .Or (a :: b :: rest) pos) (tT X.K X.w gl kd F (.or ca cb)) :=
  PW_imp (pw_or ha hb) fun σ H Q ⟨G, m, env, S, k, S', rs, re, e, q⟩ => by
    unfold tst at e
    obtain ⟨x, S1, e1, e⟩ := bind_inv e
    unfold evE at e1
    obtain ⟨y, S2, e3, e1⟩ := bind_inv e1
    split at e1
    · rename_i k' hk
      refine ⟨G, m, env, S, k', S2, rs, re, tst_val e3 hk, fun m1 H1 f1 rs1 => ?_⟩
      cases k' with
      | false =>
        refine ⟨G, m1, env, S2, k, S', rs1, re.fr f1 rs, ?_, fun m2 H2 f2 rs2 => q m2 H2 (f1.trans f2) rs2⟩
        unfold tst
        rw [show evE gl kd F G cb env S2 = .ok x S1 from e1, R.bind_ok]
        exact e
      | true =>
        cases e1
        obtain ⟨e2, rfl⟩ := opt_inv e
        rw [hk] at e2
        cases e2
        exact q m1 H1 f1 rs1
    · cases e1
theorem t_cmp {o : Cop} {op : CmpOp} (hu : X.A.units + 65 < cLine) (ho : o.op = op) (hm : behindInMarks op b = false) (ha : PE X a (tE X.K X.w gl kd F ca)) (hb : PE X b (tE X.K X.w gl kd F cb)) : PT X (.Compare a [op] [b] pos) (tT X.K X.w gl kd F (.cmp o ca cb)) := by
  subst ho
  refine PT_imp (pt_cmpR (op_cmp hu o) ha hb hm) fun σ H Q ⟨G, m, env, S, k, S', rs, re, e, q⟩ => ?_
  unfold tst at e
  obtain ⟨z, S1, e1, e⟩ := bind_inv e
  obtain ⟨e2, rfl⟩ := opt_inv e
  unfold evE at e1
  obtain ⟨x, S2, e3, e1⟩ := bind_inv e1
  obtain ⟨y, S3, e4, e1⟩ := bind_inv e1
  split at e1
  · rename_i k' hk
    cases e1
    cases e2
    exact ⟨G, m, env, S, rs, re, x, S2, e3, fun m1 V1 H1 f1 rs1 r1 n1 => ⟨G, m1, env, S2, rs1, re.fr f1 rs, y, S1, e4, fun m2 V2 H2 f2 rs2 r2 n2 => ⟨m2, S1, x, y, k, rs2, r1.fr f2 rs1, r2, hk, k, rfl, q m2 H2 (f1.trans f2) rs2⟩⟩⟩
  · cases e1
theorem t_cmp2 {o o' : Cop} {op op' : CmpOp} (hu : X.A.units + 65 < cLine) (ho : o.op = op) (ho' : o'.op = op') (hm : lastMarks [op, op'] [b, d] = false) (ha : PE X a (tE X.K X.w gl kd F ca)) (hb : PE X b (tE X.K X.w gl kd F cb)) (hd : PE X d (tE X.K X.w gl kd F cd)) :
    PT X (.Compare a [op, op'] [b, d] pos) (tT X.K X.w gl kd F (.cmp2 o o' ca cb cd)) := by
  subst ho
  subst ho'
  refine PT_imp (pt_chain (op_cmp hu o) (op_cmp hu o') ha hb hd hm) fun σ H Q ⟨G, m, env, S, k, S', rs, re, e, q⟩ => ?_
  unfold tst at e
  obtain ⟨v, S0, e1, e⟩ := bind_inv e
  obtain ⟨e2, rfl⟩ := opt_inv e
  unfold evE at e1
  obtain ⟨x, S1, e3, e1⟩ := bind_inv e1
  obtain ⟨y, S2, e4, e1⟩ := bind_inv e1
  split at e1
  · rename_i k' hk
    refine ⟨G, m, env, S, rs, re, x, S1, e3, fun m1 V1 H1 f1 rs1 r1 n1 => ⟨G, m1, env, S1, rs1, re.fr f1 rs, y, S2, e4, fun m2 V2 H2 f2 rs2 r2 n2 => ⟨m2, S2, x, y, k', rs2, r1.fr f2 rs1, r2, hk, k', rfl, ?_⟩⟩⟩
    have f := f1.trans f2
    cases k' with
    | false =>
      cases e1
      cases e2
      exact ⟨false, rfl, q m2 H2 f rs2⟩
    | true =>
      obtain ⟨z, S3, e5, e1⟩ := bind_inv e1
      split at e1
      · rename_i k2 hk2
        cases e1
        cases e2
        exact ⟨G, m2, env, S2, rs2, re.fr f rs, z, S0, e5, fun m3 V3 H3 f3 rs3 r3 n3 => ⟨m3, S0, y, z, k, rs3, r2.fr f3 rs2, r3, hk2, k, rfl, q m3 H3 (f.trans f3) rs3⟩⟩
      · cases e1
  · cases e1
theorem t_ite {td ta tb : TT} (hd : PT X d td) (ha : PT X a ta) (hb : PT X b tb) : PT X (.IfExp d a b pos) (fun σ H Q => td σ H fun c H1 => if c = true then ta σ H1 Q else tb σ H1 Q) := by
  refine ⟨fun pins s σ H Q I h => ?_⟩
  show wpAny _ _ (isTrue d X.env (eval d X.env) >>= fun c => if c = true then isTrue a X.env (eval a X.env) else isTrue b X.env (eval b X.env)) _ _ _
  refine wpAny_bind (thn (hd.run pins s σ H _ I h) fun c s1 ⟨H1, I1, q1⟩ => ?_)
  cases c with
  | true => exact ha.run pins s1 σ H1 Q I1 q1
  | false => exact hb.run pins s1 σ H1 Q I1 q1
theorem s_tite (hd : PT X d (tT X.K X.w gl kd F cd)) (ha : PT X a (tT X.K X.w gl kd F ca)) (hb : PT X b (tT X.K X.w gl kd F cb)) : PT X (.IfExp d a b pos) (tT X.K X.w gl kd F (.ite cd ca cb)) :=
  PT_imp (t_ite hd ha hb) fun σ H Q ⟨G, m, env, S, k, S', rs, re, e, q⟩ => by
    unfold tst at e
    obtain ⟨x, S1, e1, e⟩ := bind_inv e
    unfold evE at e1
    obtain ⟨y, S2, e3, e1⟩ := bind_inv e1
    split at e1
    · rename_i k' hk
      refine ⟨G, m, env, S, k', S2, rs, re, tst_val e3 hk, fun m1 H1 f1 rs1 => ?_⟩
      have fin : ∀ {cc : CE}, evE gl kd F G cc env S2 = .ok x S1 → tT X.K X.w gl kd F cc σ H1 Q := fun {cc} h => ⟨G, m1, env, S2, k, S', rs1, re.fr f1 rs, by unfold tst; rw [h, R.bind_ok]; exact e, fun m2 H2 f2 rs2 => q m2 H2 (f1.trans f2) rs2⟩
      cases k' with
      | true => exact fin e1
      | false => exact fin e1
    · cases e1
theorem t_kin {x : Str} {j : Nat} {pn : Pos} {neg : Bool} {op : CmpOp} (hop : op = if neg then .NotIn else .In) (hg : Gl X x) (hd : (x == ("__debug__" : Str)) = false) (hk : ∀ l, kd[j]? = some l → KDok X x l) (ha : PE X e (tE X.K X.w gl kd F ce)) : PT X (.Compare e [op] [.Name x pn] pos) (tT X.K X.w gl kd F (.kin neg j ce)) := by
  cases hj : kd[j]? with
  | none =>
    refine PT_no fun σ H Q ⟨G, m, env, S, k, S', rs, re, e, q⟩ => ?_
    unfold tst at e
    obtain ⟨x, S1, e1, e⟩ := bind_inv e
    unfold evE at e1
    obtain ⟨y, S2, e3, e1⟩ := bind_inv e1
    rw [hj] at e1
    cases e1
  | some l =>
    obtain ⟨p, es, n, hm, D, hl⟩ := (hk l hj).ex
    have key : ∀ (f : Bool → Bool) σ H Q, tT X.K X.w gl kd F (.kin neg j ce) σ H Q → (∀ b, f b = if neg then !b else b) → tE X.K X.w gl kd F ce σ H fun x H1 => tC (.ref p) σ H1 fun y H2 => ∃ (z : Str) (r : Option Value), x = .str z ∧ y = .ref p ∧ PySem.W.nsIn X.K p z = some r ∧ ∃ k, V.bl (f r.isSome) = .bl k ∧ Q k H2 := by
      rintro f σ H Q ⟨G, m, env, S, k, S', rs, re, e, q⟩ hf
      unfold tst at e
      obtain ⟨x, S1, e1, e⟩ := bind_inv e
      obtain ⟨e2, rfl⟩ := opt_inv e
      unfold evE at e1
      obtain ⟨y, S2, e3, e1⟩ := bind_inv e1
      rw [hj] at e1
      split at e1
      · rename_i z hz
        cases e1
        obtain ⟨s, rfl, hin⟩ := kdGet_inv hz
        obtain ⟨u, V', h1, h2, h3⟩ := hl s z hin
        refine ⟨G, m, env, S, rs, re, _, S1, e3, fun m1 V1 H1 f1 rs1 r1 n1 => ?_⟩
        cases r1 with
        | str _ hp =>
        refine ⟨_, some u, rfl, rfl, h1, _, rfl, ?_⟩
        have : f (some u).isSome = !neg := by rw [hf]; cases neg <;> rfl
        rw [this]
        cases e2
        exact q m1 H1 f1 rs1
      · cases e1
    cases neg with
    | false =>
      cases hop
      exact PT_imp (pt_cmpR (op_in_kd D) ha (pe_glob hg hm (v := .ref p) rfl hd) rfl) fun σ H Q h => key id σ H Q h fun b => rfl
    | true =>
      cases hop
      exact PT_imp (pt_cmpR (op_notIn_kd D) ha (pe_glob hg hm (v := .ref p) rfl hd) rfl) fun σ H Q h => key not σ H Q h fun b => rfl
end
end Mp
end partM13

section partM13b
set_option Elab.async false
set_option linter.all false
set_option maxRecDepth 100000
/-! M13b: displays of dicts, ranges as lists. -/
namespace Mp
open PySem PySem.Spec PyProof.Rows L2
section
variable {K : PySem.W.Frag} {w : World} {m m' : MP} {H H' : Hp} {S S' : Sto} {G : Grd} {D : Addr} {u z : HO}
theorem RS.updO (rs : RS K w m H S) (h : H D = some u) (nf : ∀ ob x, u ≠ .frz ob x) (n : ∀ l, m l ≠ some D) : RS K w m (upd H D z) S := by
  have nf' : ∀ ob x, H D ≠ some (.frz ob x) := fun ob x q => by rw [h] at q; exact nf ob x (Option.some.inj q)
  refine ⟨fun l o e => ?_, rs.inj, rs.dom⟩
  obtain ⟨a, h1, h2⟩ := rs.obj l o e
  have ne : a ≠ D := fun q => n l (by rw [← q]; exact h1)
  refine ⟨a, h1, ?_⟩
  cases o with
  | lst xs => obtain ⟨us, q1, q2⟩ := h2; exact ⟨us, by rw [upd_ne ne]; exact q1, RS.put.rvl_keep (fun t => t.upd nf') (fun t => t.upd nf') q2⟩
  | dct kvs => obtain ⟨us, q1, q2⟩ := h2; exact ⟨us, by rw [upd_ne ne]; exact q1, RS.put.rkl_keep (fun t => t.upd nf') (fun t => t.upd nf') q2⟩
  | set ns => exact ⟨by rw [upd_ne ne]; exact h2.1, h2.2⟩
theorem RkL.updO {kvs : List (PK × PV)} {us : List (Key × V)} (h : H D = some u) (nf : ∀ ob x, u ≠ .frz ob x) (r : RkL K m H kvs us) : RkL K m (upd H D z) kvs us := by
  have nf' : ∀ ob x, H D ≠ some (.frz ob x) := fun ob x q => by rw [h] at q; exact nf ob x (Option.some.inj q)
  exact RS.put.rkl_keep (fun t => t.upd nf') (fun t => t.upd nf') r
theorem merge_ok : ∀ {ps : List (PK × PV)} {qs : List (Key × V)}, RkL K m H ps qs → ∀ {kvs : List (PK × PV)} {ws : List (Key × V)}, RkL K m H kvs ws → RkL K m H (ps.foldl (fun acc p => dPut acc p.1 p.2) kvs) (mergeK ws qs)
  | _, _, .nil, _, _, r => r
  | _, _, .cons rk rv t, _, _, r => merge_ok t (putK_ok rk rv r)
end
section
variable {X : Cx} {gl : List PV} {kd : List KD} {F : FT} {a b e : Expr} {ca cb ce : CE} {pos p : Pos}
/-- the readings of a display's pairs -/
def trD (K : PySem.W.Frag) (w : World) (gl : List PV) (kd : List KD) (F : FT) : List CE → List CE → List (TE × TE)
  | k :: ks, v :: vs => (tV K w gl kd F k, tV K w gl kd F v) :: trD K w gl kd F ks vs
  | _, _ => []
theorem pairs_ok {K : PySem.W.Frag} {w : World} {σ : L2.St} : ∀ {ks vs : List CE} {G : Grd} {m : MP} {H : Hp} {env : Env} {S S' : Sto} {xs : List PV} {ps : List (PK × PV)} {Q : List (V × V) → Hp → Prop}, ks.length = vs.length → RS K w m H S → REnv K m H env σ → evL gl kd F G (flatC ks vs) env S = .ok xs S' → pairUp xs = some ps →
    (∀ m' H' qs, Fr G m H m' H' → RS K w m' H' S' → RkL K m' H' ps qs → Q (qs.map fun kv => (kV kv.1, kv.2)) H') → tPairs (trD K w gl kd F ks vs) σ H Q
  | [], [], G, m, H, env, S, S', xs, ps, Q, _, rs, re, e, hp, q => by
    unfold flatC evL at e
    cases e
    cases hp
    exact q m H [] Fr.refl rs .nil
  | [], _ :: _, _, _, _, _, _, _, _, _, _, hl, _, _, _, _, _ => by cases hl
  | _ :: _, [], _, _, _, _, _, _, _, _, _, hl, _, _, _, _, _ => by cases hl
  | k :: ks, v :: vs, G, m, H, env, S, S', xs, ps, Q, hl, rs, re, e, hp, q => by
    unfold flatC evL at e
    obtain ⟨x, S1, e1, e⟩ := bind_inv e
    obtain ⟨xs1, S4, e4, e⟩ := bind_inv e
    unfold evL at e4
    obtain ⟨y, S2, e2, e4⟩ := bind_inv e4
    obtain ⟨xs2, S3, e3, e4⟩ := bind_inv e4
    cases e4
    cases e
    unfold pairUp at hp
    split at hp
    · rename_i kq ps' hk hr
      cases hp
      refine ⟨G, m, env, S, x, S1, rs, re, e1, fun m1 V1 H1 f1 rs1 r1 => ⟨G, m1, env, S1, y, S2, rs1, re.fr f1 rs, e2, fun m2 V2 H2 f2 rs2 r2 => ?_⟩⟩
      have f := f1.trans f2
      refine pairs_ok (by simpa using hl) rs2 (re.fr f rs) e3 hr fun m3 H3 qs f3 rs3 r3 => ?_
      obtain ⟨kq', h1, h2⟩ := kRel_pv hk (r1.fr f2 rs1)
      have z := q m3 H3 ((kq', V2) :: qs) (f.trans f3) rs3 (.cons h1 (r2.fr f3 rs2) r3)
      rw [List.map_cons] at z
      rw [h2]
      exact z
    · cases hp
theorem s_dct {ks : List (Option Expr)} {vs : List Expr} {cks cvs : List CE} (h : PPs X pos ks vs (trD X.K X.w gl kd F cks cvs)) (hall : ks.all (·.isSome) = true) (hl : ks.length = vs.length) (h0 : ks ≠ []) (h15 : ks.length ≤ 15) (hc : cks.length = cvs.length) :
    PE X (.Dict ks vs pos) (tE X.K X.w gl kd F (.dct (flatC cks cvs))) := by
  refine PE_imp (pe_disp h hall hl h0 h15) fun σ H Q ⟨G, m, env, S, rs, re, v, S', e, q⟩ => ?_
  unfold evE at e
  obtain ⟨xs, S1, e1, e⟩ := bind_inv e
  split at e
  · rename_i ps hps
    split at e
    · rename_i hlen
      cases e
      intro d nd
      have sm : Same H (upd H d (.dK [])) := same_upd nd
      refine pairs_ok hc (rs.same sm) (re.same sm) e1 hps fun m' H' qs f rs' r => ?_
      obtain ⟨hd, nm⟩ := f.un d _ upd_same (rs.free nd)
      have hq : ps.length = qs.length := rkl_len r
      refine ⟨hd, qs, rfl, by omega, ?_⟩
      have f0 : Fr G m H m' H' := (Fr.of_same sm rs).trans f
      refine q m' _ _ (f0.updD nd nm) (rs'.updO hd (by intro _ _ z; cases z) nm) ⟨d, rfl, ⟨_, upd_same, (merge_ok r .nil).updO hd (by intro _ _ z; cases z)⟩, nm⟩ fun b eb => by cases eb; exact nd
    · cases e
  · cases e
/-- tuple(range(..)), its object known -/
theorem pe_tupRgF {te : L2.St → Hp → (Int → Int → Hp → Prop) → Prop} (hc : X.calm = true) (hg : Gl X "tuple") (hm : X.mg "tuple" = none) (he : PRg X e te) (na : starEach [e] X.env = (false, eval e X.env) :: starEach [] X.env) :
    PE X (.Call (.Name "tuple" p) [e] [] pos) (fun σ H Q => te σ H fun a b H1 => RgOk a b ∧ ∀ q (o : Obj), H1 q = none → o.dict = none → Q (.ref q) (upd H1 q (.frz o (.tup (rgV a b))))) := by
  refine ⟨fun pins s σ H Q I h => ?_⟩
  refine Call_ (ld_blt I hg hm boot_tuple (PyProof.Rows.callWith_type1 (args_cons (thn (he pins s σ H _ I h) fun x s1 ⟨r, a, b, t, u, v, H1, ex, hr, I1, ok, q⟩ => args_nil ?_) na) na))
  subst ex
  obtain ⟨b1, b2, b3, b4, b5⟩ := ok
  refine call_tuple_range (n := (b - a).toNat) (I1.ok.hd hc) hr (small_one b1 b2 b3 b4) (rangeSize_nat a b) b5 fun g tk acc hk hi => ?_
  have I2 : Inv X pins σ H1 { s1 with heap := g, toks := tk } := I1.kept hk
  refine ⟨.ref g.objs.size, _, I2.laid (t' := tk) (o := .frz { cls := .type "tuple", data := .seq acc } (.tup (rgV a b))) (fun c o e => Heap.get?_push_of_some _ e) (Nat.le_refl _) ⟨Heap.get?_push_size _ rfl, ?_, acc.toList, vals_rg hi, ?_⟩, rfl, q _ _ (I2.hok.fresh (Nat.le_refl _)) rfl⟩
  · rw [rgV_length, sizeLine_eq]
    omega
  · rw [Array.toArray_toList]
    exact IsTup.new _ _
theorem rg_rvl {K : PySem.W.Frag} {m : MP} {H : Hp} (a b : Int) : RvL K m H (upI a (b - a).toNat) (rgV a b) := by
  unfold upI rgV
  generalize (List.range (b - a).toNat) = l
  induction l with
  | nil => exact .nil
  | cons i r ih => exact .cons (.int _) ih
theorem s_rngS {te : L2.St → Hp → (Int → Int → Hp → Prop) → Prop} {k : Bool} {x : Str} (hx : x = if k then "tuple" else "list") (hc : X.calm = true) (hg : Gl X x) (hm : X.mg x = none) (he : PRg X e te) (na : starEach [e] X.env = (false, eval e X.env) :: starEach [] X.env)
    (hi : ∀ σ H (Q : Int → Int → Hp → Prop) G m env S S2 i j, RS X.K X.w m H S → REnv X.K m H env σ → ((evE gl kd F G ca env S).bind fun x S1 => (evE gl kd F G cb env S1).bind fun y S2 => R.ok (x, y) S2) = .ok (.val (.int i), .val (.int j)) S2 →
      (∀ m' H', Fr G m H m' H' → RS X.K X.w m' H' S2 → Q i j H') → te σ H Q) : PE X (.Call (.Name x p) [e] [] pos) (tE X.K X.w gl kd F (.rngS k ca cb)) := by
  have inv : ∀ {G env S v S'}, evE gl kd F G (.rngS k ca cb) env S = .ok v S' → ∃ i j, ((evE gl kd F G ca env S).bind fun x S1 => (evE gl kd F G cb env S1).bind fun y S2 => R.ok (x, y) S2) = .ok (.val (.int i), .val (.int j)) S' ∧ RgOk i j ∧ v = if k then .val (.tup (upI i (j - i).toNat)) else .tmp (.lst (upI i (j - i).toNat)) := by
    intro G env S v S' h
    unfold evE at h
    obtain ⟨x, S1, e1, h⟩ := bind_inv h
    obtain ⟨y, S2, e2, h⟩ := bind_inv h
    split at h
    · rename_i i j _
      split at h
      · rename_i wk hw
        cases h
        unfold rngW at hw
        split at hw
        · rename_i hb
          cases hw
          refine ⟨i, j, by rw [e1, R.bind_ok, e2, R.bind_ok], ⟨hb.1, hb.2.1, hb.2.2.1, hb.2.2.2.1, hb.2.2.2.2⟩, rfl⟩
        · cases hw
      · cases h
    · cases h
  cases k with
  | true =>
    rw [if_pos rfl] at hx
    subst hx
    refine PE_imp (pe_tupRgF hc hg hm he na) fun σ H Q ⟨G, m, env, S, rs, re, v, S', e, q⟩ => ?_
    obtain ⟨i, j, e1, ok, rfl⟩ := inv e
    refine hi σ H _ G m env S S' i j rs re e1 fun m' H' f rs' => ⟨ok, fun d o nd hd => ?_⟩
    exact q m' _ _ (f.trans (Fr.of_same (same_upd nd) rs')) (rs'.same (same_upd nd)) (new_tup nd hd (rg_rvl i j)) trivial
  | false =>
    rw [if_neg (by decide)] at hx
    subst hx
    refine PE_imp (pe_listRg hc hg hm he na) fun σ H Q ⟨G, m, env, S, rs, re, v, S', e, q⟩ => ?_
    obtain ⟨i, j, e1, ok, rfl⟩ := inv e
    refine hi σ H _ G m env S S' i j rs re e1 fun m' H' f rs' => ⟨ok, fun d nd => ?_⟩
    exact q m' _ _ (f.trans (Fr.of_same (same_upd nd) rs')) (rs'.same (same_upd nd)) (new_lst rs' nd (rg_rvl i j)) fun a ea => by cases ea; exact f.none rs rs' nd
theorem s_rngS1 {k : Bool} {x : Str} {p2 pos2 : Pos} (hx : x = if k then "tuple" else "list") (hc : X.calm = true) (hg : Gl X x) (hm : X.mg x = none) (hr : Gl X "range") (hmr : X.mg "range" = none) (na : starEach [b] X.env = (false, eval b X.env) :: starEach [] X.env) (hb : PE X b (tE X.K X.w gl kd F cb)) :
    PE X (.Call (.Name x p) [.Call (.Name "range" p2) [b] [] pos2] [] pos) (tE X.K X.w gl kd F (.rngS k (.cst (.int 0)) cb)) := by
  refine s_rngS hx hc hg hm (prg_1 hr hmr hb na) rfl fun σ H Q G m env S S2 i j rs re e q => ?_
  obtain ⟨x, S1, e1, e⟩ := bind_inv e
  unfold evE at e1
  cases e1
  obtain ⟨y, S3, e2, e⟩ := bind_inv e
  cases e
  exact ⟨G, m, env, S, rs, re, _, S2, e2, fun m1 V1 H1 f1 rs1 r1 n1 => by
    cases r1
    exact ⟨j, rfl, q m1 H1 f1 rs1⟩⟩
theorem s_rngS2 {k : Bool} {x : Str} {p2 pos2 : Pos} (hx : x = if k then "tuple" else "list") (hc : X.calm = true) (hg : Gl X x) (hm : X.mg x = none) (hr : Gl X "range") (hmr : X.mg "range" = none) (na : starEach [a, b] X.env = (false, eval a X.env) :: starEach [b] X.env) (nb : starEach [b] X.env = (false, eval b X.env) :: starEach [] X.env)
    (hp : (backTo pos2 (starEach [b] X.env)).any (·.1) = false) (ha : PE X a (tE X.K X.w gl kd F ca)) (hb : PE X b (tE X.K X.w gl kd F cb)) :
    PE X (.Call (.Name x p) [.Call (.Name "range" p2) [a, b] [] pos2] [] pos) (tE X.K X.w gl kd F (.rngS k ca cb)) := by
  refine s_rngS hx hc hg hm (prg_2 hr hmr ha hb na nb hp) rfl fun σ H Q G m env S S2 i j rs re e q => ?_
  obtain ⟨x, S1, e1, e⟩ := bind_inv e
  obtain ⟨y, S3, e2, e⟩ := bind_inv e
  cases e
  exact ⟨G, m, env, S, rs, re, _, S1, e1, fun m1 V1 H1 f1 rs1 r1 n1 => ⟨G, m1, env, S1, rs1, re.fr f1 rs, _, S2, e2, fun m2 V2 H2 f2 rs2 r2 n2 => by
    cases r1
    cases r2
    exact ⟨i, j, rfl, rfl, q m2 H2 (f1.trans f2) rs2⟩⟩⟩
end
end Mp
end partM13b

section partM14
set_option Elab.async false
set_option linter.all false
set_option maxRecDepth 100000
/-! M14: what the compiler makes of an expression holds of it. -/
namespace Mp
open PySem PySem.Spec PyProof.Rows L2
def bltN : List Str := ["len", "tuple", "list", "sorted", "int", "abs", "min", "max", "set", "isinstance", "bool", "str", "dict", "range", "enumerate", "zip"]
structure FnIs (P : Pg) (k : Nat) (T : Tab) (X : Cx) (x : Str) (i : Nat) : Prop where
  ex : ∃ f fd ps, X.mg x = some (.ref f) ∧ PySem.W.keepIn X.K (.ref f) = true ∧ FnOk X.prog X.w X.K X.mg X.base CX0 k f fd ps (spF X.K X.w P k i ps.length) ∧ Binds X.K fd ps [] ∧ (∀ d, P.ds[i]? = some d → d.np = ps.length) ∧
    ∀ q ∈ T.kws, q.1 = i → KBinds X.K fd ps q.2.2.1 (gKW q.2.1 q.2.2.1.length q.2.2.2) (gKW q.2.1 q.2.2.1.length q.2.2.2) ∧ ps.length = q.2.2.2.length ∧ ∀ j ∈ q.2.2.2, j < q.2.1 + q.2.2.1.length
structure Good (P : Pg) (k : Nat) (c : CC) (X : Cx) : Prop where
  N : X.N = c.N
  nd : c.N.Nodup
  calm : X.calm = true
  room : Room k X.A
  sc : ∀ x kd, c.sc.names.lookup x = some kd → X.env.scope.names.lookup x = some kd ∨ (kd = .free ∧ X.env.scope.names.lookup x = some .cell)
  fn : ∀ x, c.sc.names.lookup x = some .cell → X.fn x = true
  glb : ∀ x g v, lkS c.T.gls x = some g → P.gl[g]? = some v → ∃ V' u, X.mg x = some u ∧ L2.RelV V' u ∧ ∀ m H, Rv X.K m H v V'
  kds : ∀ x j l, lkS c.T.kds x = some j → P.kd[j]? = some l → KDok X x l
  fns : ∀ x i, fnIx c.T x = some i → FnIs P k c.T X x i
  blt : ∀ x ∈ bltN, fnIx c.T x = none → X.mg x = none
section
variable {P : Pg} {k : Nat} {c : CC} {X : Cx}
theorem Good.hu (g : Good P k c X) : X.A.units + 65 < cLine := by have := g.room.un; omega
theorem Good.hu1 (g : Good P k c X) : X.A.units + 1 < cLine := by have := g.room.un; omega
theorem Good.gl (g : Good P k c X) {x : Str} (h : c.glob x = true) : Gl X x ∧ (x == ("__debug__" : Str)) = false ∧ x ≠ "__name__" := by
  unfold CC.glob resv at h
  simp only [Bool.and_eq_true, decide_eq_true_eq, Bool.not_eq_true', Bool.or_eq_false_iff, decide_eq_false_iff_not] at h
  refine ⟨?_, beq_eq_false_iff_ne.mpr h.2.1.1, h.2.2⟩
  rcases g.sc x _ h.1 with q | ⟨q, _⟩
  · exact q
  · cases q
theorem Good.vis (g : Good P k c X) {x : Str} (h : visK (c.kind x) = true) : Vis X.env.scope x := by
  unfold CC.kind at h
  cases e : c.sc.names.lookup x with
  | none => rw [e] at h; cases h
  | some kd =>
    rw [e] at h
    rcases g.sc x kd e with q | ⟨_, q⟩
    · cases kd <;> first | exact .inl q | exact .inr (.inl q) | exact .inr (.inr q) | cases h
    · exact .inr (.inl q)
theorem Good.tg (g : Good P k c X) : TgOk c X := by
  refine ⟨g.N, g.nd, g.calm, fun x h => ?_⟩
  unfold CC.kind at h
  cases e : c.sc.names.lookup x with
  | none => rw [e] at h; cases h
  | some kd =>
    rw [e] at h
    rcases g.sc x kd e with q | ⟨q', q⟩
    · cases kd <;> first | exact ⟨.inl q, .inr q⟩ | exact ⟨.inr q, .inl (g.fn x e)⟩ | cases h
    · subst q'; cases h
theorem relS_free {sc : Scope} : ∀ {names : List (Str × NameKind)} {x : Str}, names.lookup x = some .free →
    (names.map fun (n, k) => if (k == NameKind.free && sc.kind == .function && sc.names.lookup n == some .cell) then (n, NameKind.cell) else (n, k)).lookup x = some .free ∨
    (names.map fun (n, k) => if (k == NameKind.free && sc.kind == .function && sc.names.lookup n == some .cell) then (n, NameKind.cell) else (n, k)).lookup x = some .cell
  | [], _, h => by simp at h
  | (n, k) :: r, x, h => by
    have ih := @relS_free sc r x
    rw [List.lookup_cons] at h
    rw [List.map_cons, List.lookup_cons]
    by_cases hc : (k == NameKind.free && sc.kind == .function && sc.names.lookup n == some .cell) = true
    · rw [if_pos hc]
      dsimp only
      cases hx : x == n with
      | true => exact .inr rfl
      | false =>
        rw [hx] at h
        exact ih h
    · rw [if_neg hc]
      dsimp only
      cases hx : x == n with
      | true =>
        rw [hx] at h
        exact .inl h
      | false =>
        rw [hx] at h
        exact ih h
theorem Good.blk (g : Good P k c X) {scope : Scope} {s : Shared} {H : Hp} {C : Addr} {cl : List (Str × Addr)} {fp : List Addr} : Good P k ⟨c.N, scope, c.T⟩ (X.blk s H scope (compEnvC scope cl C X.env) fp) := by
  refine ⟨g.N, g.nd, g.calm, g.room, fun x kd h => ?_, fun x h => ?_, g.glb, fun x j l h1 h2 => ⟨(g.kds x j l h1 h2).ex⟩, fun x i h => ⟨(g.fns x i h).ex⟩, g.blt⟩
  · show (relS scope X.env.scope).names.lookup x = some kd ∨ _ ∧ (relS scope X.env.scope).names.lookup x = some .cell
    by_cases hf : kd = .free
    · subst hf
      rcases relS_free (sc := X.env.scope) h with q | q
      · exact .inl q
      · exact .inr ⟨rfl, q⟩
    · exact .inl (lookup_relS_keep hf h)
  · show (scope.names.lookup x == some .cell) = true
    rw [show scope.names.lookup x = some .cell from h]
    rfl
theorem Good.blkOk (g : Good P k c X) {scope : Scope} (h : blkB c.N c.sc scope = true) : BlkOk X.N X.env.scope scope (ownOf c.N scope) := by
  unfold blkB at h
  simp only [Bool.and_eq_true, decide_eq_true_eq, List.all_eq_true] at h
  obtain ⟨⟨h1, h2⟩, h3⟩ := h
  refine ⟨h1, h2, fun p hp => ?_, fun y hy e => ?_, fun y hy e => ?_⟩
  · unfold ownOf at hp
    rw [List.mem_filterMap] at hp
    obtain ⟨y, _, e⟩ := hp
    split at e
    · obtain ⟨i, hi, rfl⟩ := Option.map_eq_some_iff.mp e
      rw [g.N]
      exact lkS_get hi
    · cases e
  · rcases h3 y hy e with q | q
    · rcases g.sc _ _ q with z | ⟨z, _⟩
      · exact .inl z
      · cases z
    · rcases g.sc _ _ q with z | ⟨_, z⟩
      · exact .inr z
      · exact .inl z
  · cases hl : lkS c.N y.1 with
    | none =>
      refine .inr fun hm => ?_
      rw [g.N] at hm
      unfold lkS at hl
      have := List.findIdx?_eq_none_iff.mp hl y.1 hm
      simp at this
    | some i =>
      refine .inl (List.mem_map.mpr ⟨(y.1, i), List.mem_filterMap.mpr ⟨y, hy, ?_⟩, rfl⟩)
      have : locK (some y.2) = true := by rcases e with e | e <;> rw [e] <;> rfl
      rw [if_pos this, hl]
      rfl
end
/-! #### what stands plainly -/
theorem plain_star {e : Expr} {es : List Expr} {env : PySem.Env} (h : plainX e = true) : starEach (e :: es) env = (false, eval e env) :: starEach es env := by
  cases e <;> first | rfl | cases h
theorem plain_back {pos : Pos} {env : PySem.Env} : ∀ {es : List Expr}, es.all plainX = true → (backTo pos (starEach es env)).any (·.1) = false ∧ (backTo pos (starEach es env)).all (fun x => !x.1) = true
  | [], _ => ⟨rfl, rfl⟩
  | e :: r, h => by
    rw [List.all_cons, Bool.and_eq_true] at h
    obtain ⟨q1, q2⟩ := plain_back (pos := pos) (env := env) h.2
    rw [plain_star h.1]
    constructor
    · show (false || (backTo pos (starEach r env)).any (·.1)) = false
      rw [q1]; rfl
    · show (true && (backTo pos (starEach r env)).all (fun x => !x.1)) = true
      rw [q2]; rfl
theorem plain_mark {op : CmpOp} {b : Expr} (h : plainX b = true) : behindInMarks op b = false := by
  cases b <;> first | rfl | cases h
theorem plain_marks {op op' : CmpOp} {b d : Expr} (h : plainX d = true) : lastMarks [op, op'] [b, d] = false := plain_mark h
theorem plain_ix {b : Expr} (h : plainX b = true) : PlainIx b := by
  intro o i
  cases b <;> first | rfl | cases h
theorem plain_fold {e : Expr} {env : PySem.Env} (h : plainX e = true) : ∀ x, foldedSetIterable e env x = pure x := by
  intro x
  cases e <;> first | rfl | cases h
theorem noSuper_base {o : Expr} {name : Str} {env : PySem.Env} (h : noSuper o = true) : attributeBase o name env (eval o env) = eval o env := by
  unfold noSuper at h
  split at h
  · cases h
  · rename_i hn
    unfold attributeBase
    split
    · rename_i id p pos
      exact absurd rfl (hn id p pos)
    · rfl
end Mp
end partM14

section partM15
set_option Elab.async false
set_option linter.all false
set_option maxRecDepth 100000
/-! M15: every expression. -/
namespace Mp
open PySem PySem.Spec PyProof.Rows L2
abbrev QE (P : Pg) (k : Nat) (X : Cx) (ce : CE) : TE := tE X.K X.w P.gl P.kd (callF P k) ce
abbrev QT (P : Pg) (k : Nat) (X : Cx) (ce : CE) : TT := tT X.K X.w P.gl P.kd (callF P k) ce
abbrev QL (P : Pg) (k : Nat) (X : Cx) (ces : List CE) : TA := tL X.K X.w P.gl P.kd (callF P k) ces
structure Ih (P : Pg) (k n : Nat) : Prop where
  e : ∀ c X e, Good P k c X → PE X e (QE P k X (cE n c e))
  t : ∀ c X e, Good P k c X → PT X e (QT P k X (cE n c e))
section
variable {P : Pg} {k n : Nat} {c : CC} {X : Cx}
theorem Ih.L (h : Ih P k n) (g : Good P k c X) : ∀ {es : List Expr}, es.all plainX = true → PA X es (QL P k X (es.map (cE n c)))
  | [], _ => s_nil
  | e :: r, hp => by
    rw [List.all_cons, Bool.and_eq_true] at hp
    exact s_cons (plain_star hp.1) (h.e c X e g) (Ih.L h g hp.2)
theorem Ih.B (h : Ih P k n) (g : Good P k c X) : ∀ {es : List Expr}, es.all plainX = true → PA X es (tB X.K X.w P.gl P.kd (callF P k) (es.map (cE n c)))
  | [], _ => s_nilB
  | e :: r, hp => by
    rw [List.all_cons, Bool.and_eq_true] at hp
    exact s_consB (plain_star hp.1) (h.e c X e g) (Ih.B h g hp.2)
theorem Ih.O (h : Ih P k n) (g : Good P k c X) : ∀ o : Option Expr, L2.PO X o (tO X.K X.w P.gl P.kd (callF P k) (o.map (cE n c)))
  | none => s_oN
  | some e => s_oS (h.e c X e g)
theorem Ih.Kw (h : Ih P k n) (g : Good P k c X) : ∀ {kws : List Keyword}, L2.PK X kws (QL P k X (kws.map fun q => cE n c q.value))
  | [] => s_knil
  | ⟨nm, e, kp⟩ :: r => s_kcons (h.e c X e g) (Ih.Kw h g)
theorem kw_facts {pos : Pos} {env : PySem.Env} : ∀ {kws : List Keyword}, (kws.all fun q => q.arg.isSome) = true →
    (backToKw pos (keywordEach kws env)).all (·.1.isSome) = true ∧ (backToKw pos (keywordEach kws env)).filterMap (·.1) = kwNames kws ∧ (backToKw pos (keywordEach kws env)).any (·.1.isNone) = false ∧ (kwNames kws).length = kws.length
  | [], _ => ⟨rfl, rfl, rfl, rfl⟩
  | ⟨nm, e, kp⟩ :: r, hp => by
    rw [List.all_cons, Bool.and_eq_true] at hp
    obtain ⟨q1, q2, q3, q4⟩ := kw_facts (pos := pos) (env := env) hp.2
    cases nm with
    | none => cases hp.1
    | some nm =>
      refine ⟨?_, ?_, ?_, ?_⟩
      · show (true && (backToKw pos (keywordEach r env)).all (·.1.isSome)) = true
        rw [q1]; rfl
      · show nm :: (backToKw pos (keywordEach r env)).filterMap (·.1) = nm :: kwNames r
        rw [q2]
      · show (false || (backToKw pos (keywordEach r env)).any (·.1.isNone)) = false
        rw [q3]; rfl
      · exact congrArg (· + 1) q4
theorem st_name {x : Str} {i : Nat} {pos : Pos} (g : Good P k c X) (h : c.slot x = some i) : PE X (.Name x pos) (QE P k X (.var i)) := by
  unfold CC.slot at h
  split at h
  · rename_i hv
    rw [Bool.and_eq_true] at hv
    unfold resv at hv
    simp only [Bool.not_eq_true', Bool.or_eq_false_iff, decide_eq_false_iff_not] at hv
    exact s_var (pe_var (by rw [g.N]; exact lkS_get h) (g.vis hv.1) (hd := beq_eq_false_iff_ne.mpr hv.2.1.1) (hcd := beq_eq_false_iff_ne.mpr hv.2.1.2))
  · cases h
theorem st_glb {x : Str} {j : Nat} {pos : Pos} (g : Good P k c X) (h : c.glob x = true) (hl : lkS c.T.gls x = some j) : PE X (.Name x pos) (QE P k X (.glb j)) := by
  cases hj : P.gl[j]? with
  | none =>
    refine PE_no fun σ H Q ⟨G, m, env, S, rs, re, v, S', e, q⟩ => ?_
    unfold evE at e
    rw [hj] at e
    cases e
  | some v =>
    obtain ⟨V', u, h1, h2, h3⟩ := g.glb x j v hl hj
    obtain ⟨q1, q2, q3⟩ := g.gl h
    exact s_glb (pe_glob q1 h1 h2 q2) fun v' hv' m H => by rw [hj] at hv'; cases hv'; exact h3 m H
theorem st_call_no {i : Nat} {e : Expr} {ces : List CE} (h : ∀ d, P.ds[i]? = some d → d.np ≠ ces.length) : PE X e (QE P k X (.call i ces)) := by
  refine PE_no fun σ H Q ⟨G, m, env, S, rs, re, v, S', e, q⟩ => ?_
  unfold evE at e
  obtain ⟨vs, S1, e1, e⟩ := bind_inv e
  have hl := s_call.evL_len e1
  cases k with
  | zero => cases e
  | succ k =>
    unfold callF at e
    split at e
    · rename_i d hd
      unfold enter at e
      rw [if_neg (fun z => h d hd (by rw [← z, hl]))] at e
      cases e
    · cases e
theorem st_call {x : Str} {i : Nat} {p pos : Pos} {es : List Expr} (ih : Ih P k n) (g : Good P k c X) (h : c.glob x = true) (hi : fnIx c.T x = some i) (hp : es.all plainX = true) : PE X (.Call (.Name x p) es [] pos) (QE P k X (.call i (es.map (cE n c)))) := by
  obtain ⟨f, fd, ps, hm, hk, F, hb, hd, _⟩ := (g.fns x i hi).ex
  obtain ⟨q1, q2, q3⟩ := g.gl h
  by_cases hl : ps.length = es.length
  · cases es with
    | nil => exact s_call0 F g.room q1 hm hk hb q2 hl
    | cons e r =>
      have hp' := hp
      rw [List.all_cons, Bool.and_eq_true] at hp'
      exact s_call F rfl g.room q1 hm hk hb q2 (plain_star hp'.1) (plain_back hp'.2).1 (by rw [hl, List.length_map]) (ih.L g hp)
  · exact st_call_no fun d hd' z => hl (by rw [← hd d hd', z, List.length_map])
theorem st_callK {x : Str} {i : Nat} {p pos : Pos} {es : List Expr} {kws : List Keyword} {q : Nat × Nat × List Str × List Nat} (ih : Ih P k n) (g : Good P k c X) (h : c.glob x = true) (hi : fnIx c.T x = some i) (hp : es.all plainX = true) (hk : (kws.all fun q => q.arg.isSome) = true)
    (hq : c.T.kws.find? (fun q => decide (q.1 = i ∧ q.2.1 = es.length ∧ q.2.2.1 = kwNames kws)) = some q) : PE X (.Call (.Name x p) es kws pos) (QE P k X (.callK i (es.map (cE n c)) (kws.map fun k => cE n c k.value) q.2.2.2)) := by
  obtain ⟨f, fd, ps, hm, hkp, F, hb, hd, hK⟩ := (g.fns x i hi).ex
  obtain ⟨q1, q2, q3⟩ := g.gl h
  have hq1 := List.find?_some hq
  rw [decide_eq_true_eq] at hq1
  obtain ⟨e1, e2, e3⟩ := hq1
  obtain ⟨b1, b2, b3⟩ := hK q (List.mem_of_find?_eq_some hq) e1
  obtain ⟨f1, f2, f3, f4⟩ := kw_facts (pos := pos) (env := X.env) hk
  have l1 : (es.map (cE n c)).length = q.2.1 := by rw [List.length_map, e2]
  have l2 : (kws.map fun k => cE n c k.value).length = q.2.2.1.length := by rw [List.length_map, e3, f4]
  refine s_callK (ks := q.2.2.1) F g.room q1 hm hkp (by rw [l1, l2]; exact b1) q2 b2 (by rw [l1, l2]; exact b3) (by rw [List.length_map]) (fun e' r z => ?_) f1 (by rw [f2, e3]) (by rw [(plain_back hp).1, f3] <;> rfl) (ih.L g hp) (ih.Kw g)
  subst z
  rw [List.all_cons, Bool.and_eq_true] at hp
  exact plain_star hp.1
/-! #### the built-in functions -/
theorem str_ofK {s : Str} (h : strOkB s.cps.toList = true) (m : MP) (H : Hp) : Rv X.K m H (.str s.cps.toList) (.str s) := by
  unfold strOkB at h
  simp only [Bool.and_eq_true, List.all_eq_true, decide_eq_true_eq] at h
  exact Rv.str s.cps.toList h
theorem st_cK {kk : Const} {j : Nat} {pos : Pos} : PE X (.Constant kk j pos) (QE P k X (cK kk)) := by
  unfold cK
  split
  · exact s_cst pe_non fun _ _ => .non
  · exact s_cst pe_bl fun _ _ => .bl _
  · exact s_cst pe_int fun _ _ => .int _
  · split
    · rename_i h
      exact s_cst pe_str fun m H => str_ofK h m H
    · exact s_bad
  · exact s_bad
theorem st_blt {x : Str} {bl : Blt} {p pos : Pos} {es : List Expr} (ih : Ih P k n) (g : Good P k c X) (h : c.glob x = true) (hn : fnIx c.T x = none) (hb : cBlt x = some bl) (hp : es.all plainX = true) (h0 : es ≠ []) : PE X (.Call (.Name x p) es [] pos) (QE P k X (.blt bl (es.map (cE n c)))) := by
  obtain ⟨q1, q2, q3⟩ := g.gl h
  have hm : x ∈ bltN → X.mg x = none := fun z => g.blt x z hn
  cases es with
  | nil => exact absurd rfl h0
  | cons e r =>
    have hp' := hp
    rw [List.all_cons, Bool.and_eq_true] at hp'
    have hs := plain_star (env := X.env) (es := r) hp'.1
    have hb' := (plain_back (pos := pos) (env := X.env) hp'.2).1
    have hB := ih.B g hp
    unfold cBlt at hb
    repeat' split at hb
    all_goals first | cases hb | skip
    all_goals rename_i hx
    all_goals subst hx
    · exact s_blt b_len (.inl ⟨_, rfl⟩) q1 (hm (by decide)) (by decide +kernel) q3 q2 hs hb' hB
    · exact s_blt b_tuple (.inr ⟨_, rfl⟩) q1 (hm (by decide)) (by decide +kernel) q3 q2 hs hb' hB
    · exact s_blt b_list (.inr ⟨_, rfl⟩) q1 (hm (by decide)) (by decide +kernel) q3 q2 hs hb' hB
    · exact s_blt (b_sorted g.calm) (.inl ⟨_, rfl⟩) q1 (hm (by decide)) (by decide +kernel) q3 q2 hs hb' hB
    · exact s_blt b_int (.inr ⟨_, rfl⟩) q1 (hm (by decide)) (by decide +kernel) q3 q2 hs hb' hB
    · exact s_blt b_abs (.inl ⟨_, rfl⟩) q1 (hm (by decide)) (by decide +kernel) q3 q2 hs hb' hB
    · exact s_blt (b_min g.calm) (.inl ⟨_, rfl⟩) q1 (hm (by decide)) (by decide +kernel) q3 q2 hs hb' hB
    · exact s_blt (b_max g.calm) (.inl ⟨_, rfl⟩) q1 (hm (by decide)) (by decide +kernel) q3 q2 hs hb' hB
    · exact s_blt (b_set g.calm) (.inr ⟨_, rfl⟩) q1 (hm (by decide)) (by decide +kernel) q3 q2 hs hb' hB
/-! #### methods -/
theorem cMth_nm {x : Str} {m : Mth} (h : cMth x = some m) : x = m.nm := by
  unfold cMth at h
  repeat' split at h
  all_goals first | cases h | skip
  all_goals rename_i hx
  all_goals subst hx
  all_goals rfl
theorem st_few {cpos : Pos} {es : List Expr} {env : PySem.Env} (hp : es.all plainX = true) (hl : es.length < 20) : ((backTo cpos (starEach es env)).all (fun x => !x.1) && (backToKw cpos (keywordEach [] env)).all (fun x => x.1.isSome)
      && decide (es.length + ([] : List Keyword).length + (if ([] : List Keyword).isEmpty then 0 else 1) < 30)) = true := by
  rw [(plain_back hp).2]
  show (true && true && decide (es.length + 0 + 0 < 30)) = true
  rw [decide_eq_true (by omega)]
  rfl
theorem st_mth {o : Expr} {m : Str} {mt : Mth} {apos cpos : Pos} {es : List Expr} (ih : Ih P k n) (g : Good P k c X) (hm : cMth m = some mt) (hl : apos.endLine = cpos.line) (ho : noSuper o = true) (hp : es.all plainX = true) (h20 : es.length < 20) :
    PE X (.Call (.Attribute o m apos) es [] cpos) (QE P k X (.mth mt (cE n c o) (es.map (cE n c)))) := by
  have := cMth_nm hm
  subst this
  have hbase := noSuper_base (name := mt.nm) (env := X.env) ho
  cases es with
  | nil => exact s_mth0 g.hu (ih.e c X o g) hbase (beq_iff_eq.mpr hl)
  | cons e r =>
    have hp' := hp
    rw [List.all_cons, Bool.and_eq_true] at hp'
    exact s_mth g.hu (ih.e c X o g) (ih.L g hp) hbase (st_few hp h20) (beq_iff_eq.mpr hl) (plain_star hp'.1) (plain_back hp'.2).1
theorem st_ext {o a : Expr} {apos cpos : Pos} (ih : Ih P k n) (g : Good P k c X) (hl : apos.endLine = cpos.line) (ho : noSuper o = true) (hp : plainX a = true) :
    PE X (.Call (.Attribute o "extend" apos) [a] [] cpos) (QE P k X (.ext (cE n c o) (cE n c a))) :=
  s_ext (ih.e c X o g) (ih.e c X a g) (noSuper_base ho) (st_few (by simp [hp]) (by simp)) (beq_iff_eq.mpr hl) (plain_star hp)
theorem cTy_nm {x : Str} {t : Ty} (h : cTy x = some t) : x = t.nm ∧ x ∈ bltN ∧ bootBuiltins x = some (.type t.nm) := by
  unfold cTy at h
  repeat' split at h
  all_goals first | cases h | skip
  all_goals rename_i hx
  all_goals subst hx
  all_goals exact ⟨rfl, by decide, by decide +kernel⟩
theorem st_isi {x tn : Str} {ty : Ty} {e : Expr} {p pt pos : Pos} (ih : Ih P k n) (g : Good P k c X) (h : c.glob x = true) (hn : fnIx c.T x = none) (hx : x = "isinstance") (ht : c.glob tn = true) (htn : fnIx c.T tn = none) (hty : cTy tn = some ty) (hp : plainX e = true) :
    PE X (.Call (.Name x p) [e, .Name tn pt] [] pos) (QE P k X (.isi (cE n c e) ty)) := by
  obtain ⟨q1, q2, q3⟩ := g.gl h
  obtain ⟨t1, t2, t3⟩ := g.gl ht
  obtain ⟨y1, y2, y3⟩ := cTy_nm hty
  exact s_isi q1 (g.blt x (by rw [hx]; decide) hn) hx t1 (g.blt tn y2 htn) y3 t3 t2 (plain_star hp) (ih.e c X e g)
/-! #### walks -/
theorem st_iter {tg it : Expr} (ih : Ih P k n) (g : Good P k c X) (weak : Bool) (hw : (∃ es kk p, tg = .Tuple es kk p) → weak = true) : PI X tg it (tI X.K X.w P.gl P.kd (callF P k) weak (cI c (cE n c) tg it)) ∧ (cI c (cE n c) tg it ≠ .bad → ∀ x, foldedSetIterable it X.env x = pure x) := by
  have bad : ∀ {it : Expr}, PI X tg it (tI X.K X.w P.gl P.kd (callF P k) weak .bad) := fun {it} => PI_no fun σ H R ⟨G, m, env, S, wk, S', rs, re, e, q⟩ => by
    unfold evI at e
    cases e
  have ex : ∀ it, PI X tg it (tI X.K X.w P.gl P.kd (callF P k) weak (.exp (cE n c it))) := fun it => s_iexp (ih.e c X it g)
  unfold cI
  split
  · rename_i f as kws pos
    refine ⟨?_, fun _ => plain_fold rfl⟩
    split
    · rename_i x p
      split
      · rename_i hc
        simp only [Bool.and_eq_true, Option.isNone_iff_eq_none] at hc
        obtain ⟨⟨h1, h2⟩, h3⟩ := hc
        obtain ⟨q1, q2, q3⟩ := g.gl h1
        have hm : x ∈ bltN → X.mg x = none := fun z => g.blt x z h2
        split
        · split
          · rename_i hx
            subst hx
            split
            · rename_i b
              simp only [List.all_cons, List.all_nil, Bool.and_true] at h3
              exact s_rng1 q1 (hm (by decide)) (plain_star h3) (ih.e c X b g)
            · rename_i a b
              simp only [List.all_cons, List.all_nil, Bool.and_true, Bool.and_eq_true] at h3
              exact s_rng2 q1 (hm (by decide)) (by rw [plain_star h3.1, plain_star h3.2]; rfl) (plain_star h3.2) (ih.e c X a g) (ih.e c X b g)
            · rename_i a b d
              simp only [List.all_cons, List.all_nil, Bool.and_true, Bool.and_eq_true] at h3
              exact s_rng3 q1 (hm (by decide)) (plain_star h3.1) (plain_star h3.2.1) (plain_star h3.2.2) (ih.e c X a g) (ih.e c X b g) (ih.e c X d g)
            · exact bad
          · split
            · rename_i hx
              subst hx
              split
              · split
                · rename_i e
                  simp only [List.all_cons, List.all_nil, Bool.and_true] at h3
                  rw [hw ⟨_, _, _, rfl⟩]
                  exact s_enum q1 (hm (by decide)) (plain_star h3) (ih.e c X e g)
                · exact bad
              · exact bad
            · split
              · rename_i hx
                subst hx
                split
                · split
                  · rename_i a b
                    simp only [List.all_cons, List.all_nil, Bool.and_true, Bool.and_eq_true] at h3
                    rw [hw ⟨_, _, _, rfl⟩]
                    exact s_zip q1 (hm (by decide)) (plain_star h3.1) (plain_star h3.2) (ih.e c X a g) (ih.e c X b g)
                  · exact bad
                · exact bad
              · exact ex _
        · exact bad
      · exact ex _
    · exact ex _
  · rename_i hne
    split
    · rename_i hp
      exact ⟨ex _, fun _ => plain_fold hp⟩
    · exact ⟨bad, fun z => absurd rfl z⟩
end
end Mp
end partM15

section partM16
set_option Elab.async false
set_option linter.all false
set_option maxRecDepth 100000
/-! M16: every expression, joined. -/
namespace Mp
open PySem PySem.Spec PyProof.Rows L2
section
variable {P : Pg} {k n : Nat} {c : CC} {X : Cx}
theorem cT_tup {c : CC} {n : Nat} {tg : Expr} {t : Tg} (h : cT c n tg = some t) : (∃ es kk p, tg = .Tuple es kk p) → t.tupled = true := by
  rintro ⟨es, kk, p, rfl⟩
  cases n with
  | zero => cases h
  | succ n =>
    unfold cT at h
    obtain ⟨ts, _, rfl⟩ := Option.map_eq_some_iff.mp h
    rfl
theorem st_lc {elt tg iter : Expr} {ifs : List Expr} {scope : Scope} {pos : Pos} {t : Tg} (ih : Ih P k n) (g : Good P k c X) (hb : blkB c.N c.sc scope = true) (ht : cT ⟨c.N, scope, c.T⟩ n tg = some t)
    (hall : Tg.all (fun i => ((ownOf c.N scope).map (·.2)).contains i) 20 t = true) (hi : ifs.length ≤ 1) :
    PE X (.ListComp elt [⟨tg, iter, ifs, 0⟩] scope pos) (QE P k X (.lc (cE n ⟨c.N, scope, c.T⟩ elt) t (cI c (cE n c) tg iter) (ifs.map (cE n ⟨c.N, scope, c.T⟩)) ((ownOf c.N scope).map (·.2)))) := by
  obtain ⟨i1, i2⟩ := st_iter (tg := tg) (it := iter) ih g t.tupled (cT_tup ht)
  by_cases hbad : cI c (cE n c) tg iter = .bad
  · rw [hbad]
    refine PE_no fun σ H Q ⟨G, m, env, S, rs, re, v, S', e, q⟩ => ?_
    unfold evE at e
    obtain ⟨wk, S1, e1, e⟩ := bind_inv e
    unfold evI at e1
    cases e1
  · refine s_lc g.calm (by rw [g.N]; exact g.nd) i1 (g.blkOk hb) (fun s H C cl fp => s_tg g.blk.tg n tg t ht) (fun s H C cl fp => ?_) (fun s H C cl fp => s_val (ih.e _ _ elt g.blk)) (i2 hbad) hall
    cases ifs with
    | nil => exact s_ts0
    | cons e r =>
      cases r with
      | nil => exact s_ts1 (ih.t _ _ e g.blk)
      | cons e' r => simp at hi
theorem bad_t {e : Expr} : PT X e (QT P k X .bad) := PT_no fun σ H Q ⟨G, m, env, S, k', S', rs, re, e, q⟩ => by
  unfold tst at e
  obtain ⟨x, S1, e1, e⟩ := bind_inv e
  unfold evE at e1
  cases e1
theorem cBop_op {o : Operator} {b : Bop} (h : cBop o = some b) : b.op = o := by
  cases o <;> first | (cases h; rfl) | cases h
theorem cCop_op (o : CmpOp) : (cCop o).op = o := by cases o <;> rfl
theorem st_and (ih : Ih P k n) (g : Good P k c X) {pos : Pos} : ∀ {vs : List Expr}, PE X (.BoolOp .And vs pos) (QE P k X (cAnd (vs.map (cE n c)))) ∧ PT X (.BoolOp .And vs pos) (QT P k X (cAnd (vs.map (cE n c)))) ∧ (vs ≠ [] → PW X (.BoolOp .And vs pos) (QT P k X (cAnd (vs.map (cE n c)))))
  | [] => ⟨s_bad, bad_t, fun z => absurd rfl z⟩
  | [e] => ⟨pe_one (ih.e c X e g), (pw_and1 (ih.t c X e g)).pt, fun _ => pw_and1 (ih.t c X e g)⟩
  | e :: e' :: r => by
    obtain ⟨h1, _, h3⟩ := st_and ih g (pos := pos) (vs := e' :: r)
    have w := t_and (ih.t c X e g) (h3 (by simp))
    exact ⟨s_and (ih.e c X e g) h1, w.pt, fun _ => w⟩
theorem st_or (ih : Ih P k n) (g : Good P k c X) {pos : Pos} : ∀ {vs : List Expr}, PE X (.BoolOp .Or vs pos) (QE P k X (cOr (vs.map (cE n c)))) ∧ PT X (.BoolOp .Or vs pos) (QT P k X (cOr (vs.map (cE n c)))) ∧ (vs ≠ [] → PW X (.BoolOp .Or vs pos) (QT P k X (cOr (vs.map (cE n c)))))
  | [] => ⟨s_bad, bad_t, fun z => absurd rfl z⟩
  | [e] => ⟨pe_one (ih.e c X e g), (pw_or1 (ih.t c X e g)).pt, fun _ => pw_or1 (ih.t c X e g)⟩
  | e :: e' :: r => by
    obtain ⟨h1, _, h3⟩ := st_or ih g (pos := pos) (vs := e' :: r)
    have w := t_or (ih.t c X e g) (h3 (by simp))
    exact ⟨s_or (ih.e c X e g) h1, w.pt, fun _ => w⟩
end
section
variable {P : Pg} {k n : Nat} {c : CC} {X : Cx}
theorem st_cmp {a : Expr} {ops : List CmpOp} {bs : List Expr} {pos : Pos} (ih : Ih P k n) (g : Good P k c X) : PE X (.Compare a ops bs pos) (QE P k X (cE (n + 1) c (.Compare a ops bs pos))) ∧ PT X (.Compare a ops bs pos) (QT P k X (cE (n + 1) c (.Compare a ops bs pos))) := by
  have two : ∀ (o : CmpOp) (b : Expr), plainX b = true → PE X (.Compare a [o] [b] pos) (QE P k X (.cmp (cCop o) (cE n c a) (cE n c b))) ∧ PT X (.Compare a [o] [b] pos) (QT P k X (.cmp (cCop o) (cE n c a) (cE n c b))) := fun o b hp =>
    ⟨s_cmp g.hu (cCop_op o) (plain_mark hp) (ih.e c X a g) (ih.e c X b g), t_cmp g.hu (cCop_op o) (plain_mark hp) (ih.e c X a g) (ih.e c X b g)⟩
  have kd : ∀ (neg : Bool) (o : CmpOp) (d : Str) (pd : Pos) (j : Nat), o = (if neg then .NotIn else .In) → (if c.glob d = true then lkS c.T.kds d else none) = some j → PE X (.Compare a [o] [.Name d pd] pos) (QE P k X (.kin neg j (cE n c a))) ∧ PT X (.Compare a [o] [.Name d pd] pos) (QT P k X (.kin neg j (cE n c a))) := fun neg o d pd j ho hj => by
    split at hj
    · rename_i hg
      obtain ⟨q1, q2, q3⟩ := g.gl hg
      exact ⟨s_kin ho q1 q2 (fun l hl => g.kds d j l hj hl) (ih.e c X a g), t_kin ho q1 q2 (fun l hl => g.kds d j l hj hl) (ih.e c X a g)⟩
    · cases hj
  unfold cE
  dsimp only
  split
  · rename_i o b
    split
    · rename_i hp
      split
      · rename_i d pd
        split
        · rename_i j hj
          exact kd false _ d pd j rfl hj
        · exact two _ _ hp
      · rename_i d pd
        split
        · rename_i j hj
          exact kd true _ d pd j rfl hj
        · exact two _ _ hp
      · exact two _ _ hp
    · exact ⟨s_bad, bad_t⟩
  · rename_i o o' b d
    split
    · rename_i hp
      rw [Bool.and_eq_true] at hp
      exact ⟨s_cmp2 g.hu (cCop_op o) (cCop_op o') (plain_marks hp.2) (ih.e c X a g) (ih.e c X b g) (ih.e c X d g), t_cmp2 g.hu (cCop_op o) (cCop_op o') (plain_marks hp.2) (ih.e c X a g) (ih.e c X b g) (ih.e c X d g)⟩
    · exact ⟨s_bad, bad_t⟩
  · exact ⟨s_bad, bad_t⟩
theorem st_un {o : UnaryOp} {a : Expr} {pos : Pos} (ih : Ih P k n) (g : Good P k c X) : PE X (.UnaryOp o a pos) (QE P k X (cE (n + 1) c (.UnaryOp o a pos))) := by
  unfold cE
  dsimp only
  split
  · exact s_not (ih.e c X a g)
  · exact s_neg (ih.e c X a g)
  · exact s_bad
theorem st_sub {a i : Expr} {pos : Pos} (ih : Ih P k n) (g : Good P k c X) : PE X (.Subscript a i pos) (QE P k X (cE (n + 1) c (.Subscript a i pos))) := by
  unfold cE
  dsimp only
  split
  · split
    · exact s_slc (ih.e c X a g) (ih.O g _) (ih.O g _)
    · exact s_bad
  · split
    · rename_i hp
      split
      · rename_i j hj
        split at hj
        · rename_i d pd
          split at hj
          · rename_i hg
            obtain ⟨q1, q2, q3⟩ := g.gl hg
            exact s_kget (plain_ix hp) q1 q2 (fun l hl => g.kds d j l hj hl) (ih.e c X i g)
          · cases hj
        · cases hj
      · exact s_idx g.hu1 (plain_ix hp) (ih.e c X a g) (ih.e c X i g)
    · exact s_bad
theorem pps_all {pos : Pos} (ih : Ih P k n) (g : Good P k c X) : ∀ {ks : List (Option Expr)} {vs : List Expr}, ks.all (·.isSome) = true → ks.length = vs.length → PPs X pos ks vs (trD X.K X.w P.gl P.kd (callF P k) (ks.map fun o => match o with
      | some e => cE n c e
      | none => .bad) (vs.map (cE n c)))
  | [], [], _, _ => pps_nil
  | [], _ :: _, _, h => by cases h
  | _ :: _, [], _, h => by cases h
  | none :: ks, v :: vs, h, _ => by cases h
  | some e :: ks, v :: vs, h, hl => pps_cons (s_val (ih.e c X e g)) (s_val (ih.e c X v g)) (pps_all ih g (by simpa using h) (by simpa using hl))
theorem st_rngA {x : Str} {p pos : Pos} {as : List Expr} {ras : List Expr} {b : Bool} (ih : Ih P k n) (g : Good P k c X) (h : c.glob x = true) (hn : fnIx c.T x = none) (hp : as.all plainX = true) (hr : rngArg c x as = some (b, ras)) :
    (∀ e, ras = [e] → PE X (.Call (.Name x p) as [] pos) (QE P k X (.rngS b (.cst (.int 0)) (cE n c e)))) ∧ (∀ e e', ras = [e, e'] → PE X (.Call (.Name x p) as [] pos) (QE P k X (.rngS b (cE n c e) (cE n c e')))) := by
  unfold rngArg at hr
  split at hr
  · rename_i r p2 ras' pos2
    split at hr
    · rename_i hc
      obtain ⟨rfl, h1, h2, h3⟩ := hc
      obtain ⟨q1, q2, q3⟩ := g.gl h
      obtain ⟨r1, r2, r3⟩ := g.gl h1
      have hm := g.blt x
      have hmr := g.blt _ (by decide) h2
      have key : x = (if b = true then ("tuple" : Str) else "list") ∧ ras' = ras ∧ X.mg x = none := by
        split at hr
        · rename_i hx
          cases hr
          exact ⟨hx, rfl, hm (by rw [hx]; decide) hn⟩
        · split at hr
          · rename_i hx
            cases hr
            exact ⟨hx, rfl, hm (by rw [hx]; decide) hn⟩
          · cases hr
      obtain ⟨k1, rfl, k3⟩ := key
      refine ⟨fun e he => ?_, fun e e' he => ?_⟩
      · subst he
        simp only [List.all_cons, List.all_nil, Bool.and_true] at h3
        exact s_rngS1 (k := b) (by rw [k1]; cases b <;> rfl) g.calm q1 k3 r1 hmr (plain_star h3) (ih.e c X e g)
      · subst he
        simp only [List.all_cons, List.all_nil, Bool.and_true, Bool.and_eq_true] at h3
        exact s_rngS2 (k := b) (by rw [k1]; cases b <;> rfl) g.calm q1 k3 r1 hmr (plain_star h3.1) (plain_star h3.2) (plain_back (by simpa using h3.2)).1 (ih.e c X e g) (ih.e c X e' g)
    · cases hr
  · cases hr
theorem st_callE {f : Expr} {as : List Expr} {kws : List Keyword} {pos : Pos} (ih : Ih P k n) (g : Good P k c X) : PE X (.Call f as kws pos) (QE P k X (cE (n + 1) c (.Call f as kws pos))) := by
  unfold cE
  dsimp only
  split
  · rename_i x p
    split
    · rename_i hc
      rw [Bool.and_eq_true] at hc
      obtain ⟨hg, hp⟩ := hc
      split
      · rename_i i hi
        split
        · exact st_call ih g hg hi hp
        · rename_i kws' hne
          split
          · rename_i hk
            split
            · rename_i q hq
              refine st_callK ih g hg hi hp ?_ hq
              simp only [List.all_eq_true, Bool.and_eq_true] at hk ⊢
              exact fun y hy => (hk y hy).1
            · exact s_bad
          · exact s_bad
      · rename_i hi
        split
        · split
          · rename_i hx
            split
            · rename_i e t pt
              split
              · rename_i ht
                rw [Bool.and_eq_true, Option.isNone_iff_eq_none] at ht
                simp only [List.all_cons, List.all_nil, Bool.and_true, Bool.and_eq_true] at hp
                split
                · rename_i ty hty
                  exact st_isi ih g hg hi hx ht.1 ht.2 hty hp.1
                · exact s_bad
              · exact s_bad
            · exact s_bad
          · split
            · rename_i b e hr
              exact (st_rngA ih g hg hi hp hr).1 e rfl
            · rename_i b e e' hr
              exact (st_rngA ih g hg hi hp hr).2 e e' rfl
            · exact s_bad
            · split
              · rename_i b hb
                split
                · exact s_bad
                · rename_i hne
                  exact st_blt ih g hg hi hb hp (fun z => hne z)
              · exact s_bad
        · exact s_bad
    · exact s_bad
  · rename_i o m apos
    split
    · rename_i hc
      simp only [Bool.and_eq_true, decide_eq_true_eq] at hc
      obtain ⟨⟨⟨h1, h2⟩, h3⟩, h4⟩ := hc
      split
      · split
        · rename_i hm
          subst hm
          split
          · rename_i a
            simp only [List.all_cons, List.all_nil, Bool.and_true] at h3
            exact st_ext ih g h1 h2 h3
          · exact s_bad
        · split
          · rename_i mt hmt
            exact st_mth ih g hmt h1 h2 h3 h4
          · exact s_bad
      · exact s_bad
    · exact s_bad
  · exact s_bad
theorem st_e (ih : Ih P k n) (g : Good P k c X) (e : Expr) : PE X e (QE P k X (cE (n + 1) c e)) := by
  cases e with
  | Constant kk j pos => exact st_cK
  | Call f as kws pos => exact st_callE ih g
  | Subscript a i pos => exact st_sub ih g
  | UnaryOp o a pos => exact st_un ih g
  | Compare a ops bs pos => exact (st_cmp ih g).1
  | Name x pos =>
    unfold cE
    dsimp only
    split
    · rename_i i hi
      exact st_name g hi
    · split
      · rename_i hg
        split
        · rename_i j hj
          exact st_glb g hg hj
        · exact s_bad
      · exact s_bad
  | Tuple es kk pos =>
    unfold cE
    dsimp only
    split
    · rename_i hp
      exact s_tup (ih.L g hp)
    · exact s_bad
  | List es pos =>
    unfold cE
    dsimp only
    split
    · rename_i hp
      exact s_lst (ih.L g hp)
    · exact s_bad
  | Dict ks vs pos =>
    unfold cE
    dsimp only
    split
    · rename_i h
      rw [Bool.and_eq_true, List.isEmpty_iff, List.isEmpty_iff] at h
      rw [h.1, h.2]
      exact s_dct0
    · split
      · rename_i h
        simp only [Bool.and_eq_true, decide_eq_true_eq, Bool.not_eq_true', List.isEmpty_eq_false_iff] at h
        exact s_dct (pps_all ih g h.1.1.1 h.1.1.2) h.1.1.1 h.1.1.2 h.2 h.1.2 (by rw [List.length_map, List.length_map]; exact h.1.1.2)
      · exact s_bad
  | BinOp a o b pos =>
    unfold cE
    dsimp only
    split
    · rename_i b' hb
      exact s_bin (cBop_op hb) (ih.e c X a g) (ih.e c X b g)
    · exact s_bad
  | BoolOp o vs pos =>
    cases o with
    | And => exact (st_and ih g).1
    | Or => exact (st_or ih g).1
  | IfExp t a b pos => exact s_ite (ih.t c X t g) (ih.e c X a g) (ih.e c X b g)
  | ListComp elt gens scope pos =>
    unfold cE
    dsimp only
    split
    · rename_i tg iter ifs
      split
      · rename_i hb
        split
        · rename_i t ht
          split
          · rename_i hc
            rw [Bool.and_eq_true, decide_eq_true_eq] at hc
            exact st_lc ih g hb ht hc.1 hc.2
          · exact s_bad
        · exact s_bad
      · exact s_bad
    · exact s_bad
  | _ => exact s_bad
theorem st_t (ih : Ih P k n) (g : Good P k c X) (e : Expr) : PT X e (QT P k X (cE (n + 1) c e)) := by
  have pl : (∀ whole, isTrue e X.env whole = (do let v ← whole; standAt e.pos; holding [v] (truthy v))) → PT X e (QT P k X (cE (n + 1) c e)) := fun h => t_plain (st_e ih g e) h
  cases e with
  | Compare a ops bs pos => exact (st_cmp ih g).2
  | UnaryOp o a pos =>
    cases o with
    | Not => exact t_not (ih.t c X a g)
    | _ => exact pl fun _ => rfl
  | BoolOp o vs pos =>
    cases o with
    | And => exact (st_and ih g).2.1
    | Or => exact (st_or ih g).2.1
  | IfExp t a b pos => exact s_tite (ih.t c X t g) (ih.t c X a g) (ih.t c X b g)
  | _ => exact pl fun _ => rfl
end
theorem ih_all (P : Pg) (k : Nat) : ∀ n, Ih P k n
  | 0 => ⟨fun c X e g => s_bad, fun c X e g => bad_t⟩
  | n + 1 => ⟨fun c X e g => st_e (ih_all P k n) g e, fun c X e g => st_t (ih_all P k n) g e⟩
end Mp
end partM16

section partM17
set_option Elab.async false
set_option linter.all false
set_option maxRecDepth 100000
/-! M17: statements. -/
namespace Mp
open PySem PySem.Spec PyProof.Rows L2
def EndOk (K : PySem.W.Frag) (w : World) (fl : Fl) (D : Ends) (m' : MP) (H H' : Hp) : Prop :=
  match fl with
  | .nx env => ∀ σ', REnv K m' H' env σ' → D.nx σ' H'
  | .bk env => ∀ σ', REnv K m' H' env σ' → D.bk σ' H'
  | .ct env => ∀ σ', REnv K m' H' env σ' → D.ct σ' H'
  | .rt v => ∀ V', RelE K w m' H' v V' → FrE H v V' → D.rt V' H'
def tS (K : PySem.W.Frag) (w : World) (gl : List PV) (kd : List KD) (F : FT) (cs : CS) : TS := fun D σ H => ∃ G m env S fl S', RS K w m H S ∧ REnv K m H env σ ∧ exS gl kd F G cs env S = .ok fl S' ∧ ∀ m' H', Fr G m H m' H' → RS K w m' H' S' → EndOk K w fl D m' H H'
def tSs (K : PySem.W.Frag) (w : World) (gl : List PV) (kd : List KD) (F : FT) (cs : List CS) : TS := fun D σ H => ∃ G m env S fl S', RS K w m H S ∧ REnv K m H env σ ∧ exL gl kd F G cs env S = .ok fl S' ∧ ∀ m' H', Fr G m H m' H' → RS K w m' H' S' → EndOk K w fl D m' H H'
section
variable {K : PySem.W.Frag} {w : World} {G : Grd} {m m1 m' : MP} {H H1 H' : Hp} {S S1 : Sto} {fl : Fl} {D : Ends}
theorem EndOk.back (f : Fr G m H m1 H1) (rs : RS K w m H S) (rs1 : RS K w m1 H1 S1) (h : EndOk K w fl D m' H H') : EndOk K w fl D m' H1 H' := by
  cases fl with
  | nx _ => exact h
  | bk _ => exact h
  | ct _ => exact h
  | rt v => exact fun V' r n => h V' r (n.back f rs rs1)
end
section
variable {X : Cx} {gl : List PV} {kd : List KD} {F : FT} {e tg iter : Expr} {ce : CE} {pos : Pos} {s : Stmt} {r : List Stmt} {cs : CS} {cr : List CS}
theorem PS_imp {t t' : TS} (h : PS X s t) (i : ∀ D σ H, t' D σ H → t D σ H) : PS X s t' := ⟨fun pins st σ H D I q => h.run pins st σ H D I (i D σ H q)⟩
theorem PSs_imp {t t' : TS} (h : PSs X r t) (i : ∀ D σ H, t' D σ H → t D σ H) : PSs X r t' := ⟨fun pins st σ H D I q => h.run pins st σ H D I (i D σ H q)⟩
theorem PS_no {t' : TS} (i : ∀ D σ H, ¬ t' D σ H) : PS X s t' := ⟨fun pins st σ H D I q => (i D σ H q).elim⟩
abbrev BadS (gl : List PV) (kd : List KD) (F : FT) (cs : CS) : Prop := ∀ G env S fl S', exS gl kd F G cs env S ≠ .ok fl S'
theorem ss_bad (h : BadS gl kd F cs) : PS X s (tS X.K X.w gl kd F cs) := PS_no fun D σ H ⟨G, m, env, S, fl, S', rs, re, e, q⟩ => h _ _ _ _ _ e
theorem ss_nil : PSs X [] (tSs X.K X.w gl kd F []) := PSs_imp pss_nil fun D σ H ⟨G, m, env, S, fl, S', rs, re, e, q⟩ => by
  unfold exL at e
  cases e
  exact q m H Fr.refl rs σ re
theorem ss_cons (h : PS X s (tS X.K X.w gl kd F cs)) (hr : PSs X r (tSs X.K X.w gl kd F cr)) : PSs X (s :: r) (tSs X.K X.w gl kd F (cs :: cr)) := by
  refine PSs_imp (pss_cons h hr) fun D σ H ⟨G, m, env, S, fl, S', rs, re, e, q⟩ => ?_
  unfold exL at e
  obtain ⟨f, S1, e1, e⟩ := bind_inv e
  refine ⟨G, m, env, S, f, S1, rs, re, e1, fun m1 H1 f1 rs1 => ?_⟩
  cases f with
  | nx env1 => exact fun σ1 re1 => ⟨G, m1, env1, S1, fl, S', rs1, re1, e, fun m2 H2 f2 rs2 => (q m2 H2 (f1.trans f2) rs2).back f1 rs rs1⟩
  | bk env1 => cases e; exact q m1 H1 f1 rs1
  | ct env1 => cases e; exact q m1 H1 f1 rs1
  | rt v => cases e; exact q m1 H1 f1 rs1
theorem ss_pass : PS X (.Pass pos) (tS X.K X.w gl kd F .pass) := PS_imp ps_pass fun D σ H ⟨G, m, env, S, fl, S', rs, re, e, q⟩ => by
  unfold exS at e
  cases e
  exact q m H Fr.refl rs σ re
theorem ss_doc {x : Str} {j : Nat} {p : Pos} : PS X (.Expr (.Constant (.str x) j p) pos) (tS X.K X.w gl kd F .pass) := PS_imp ps_doc fun D σ H ⟨G, m, env, S, fl, S', rs, re, e, q⟩ => by
  unfold exS at e
  cases e
  exact q m H Fr.refl rs σ re
theorem ss_brk : PS X (.Break pos) (tS X.K X.w gl kd F .brk) := PS_imp ps_break fun D σ H ⟨G, m, env, S, fl, S', rs, re, e, q⟩ => by
  unfold exS at e
  cases e
  exact q m H Fr.refl rs σ re
theorem ss_cont : PS X (.Continue pos) (tS X.K X.w gl kd F .cont) := PS_imp ps_continue fun D σ H ⟨G, m, env, S, fl, S', rs, re, e, q⟩ => by
  unfold exS at e
  cases e
  exact q m H Fr.refl rs σ re
theorem ss_retN : PS X (.Return none pos) (tS X.K X.w gl kd F .retN) := PS_imp ps_retN fun D σ H ⟨G, m, env, S, fl, S', rs, re, e, q⟩ => by
  unfold exS at e
  cases e
  exact q m H Fr.refl rs .non Rv.non trivial
theorem ss_exp (h : PE X e (tE X.K X.w gl kd F ce)) (hs : swapsWith e none pos.line X.env = pure false) : PS X (.Expr e pos) (tS X.K X.w gl kd F (.exp ce)) := PS_imp (ps_expr h hs) fun D σ H ⟨G, m, env, S, fl, S', rs, re, e, q⟩ => by
  unfold exS at e
  obtain ⟨x, S1, e1, e⟩ := bind_inv e
  cases e
  exact ⟨G, m, env, S, rs, re, x, S', e1, fun m1 V1 H1 f1 rs1 r1 n1 => q m1 H1 f1 rs1 σ (re.fr f1 rs)⟩
theorem ss_ret (h : PE X e (tE X.K X.w gl kd F ce)) : PS X (.Return (some e) pos) (tS X.K X.w gl kd F (.ret ce)) := PS_imp (ps_ret h) fun D σ H ⟨G, m, env, S, fl, S', rs, re, e, q⟩ => by
  unfold exS at e
  obtain ⟨x, S1, e1, e⟩ := bind_inv e
  cases e
  exact ⟨G, m, env, S, rs, re, x, S', e1, fun m1 V1 H1 f1 rs1 r1 n1 => q m1 H1 f1 rs1 V1 r1 n1⟩
theorem asg_imp {t : Tg} {D : Ends} {σ : L2.St} {H : Hp} {K : PySem.W.Frag} {w : World} (h : tS K w gl kd F (.asg t ce) D σ H) : tAsg (tV K w gl kd F ce) (tG K t) D σ H := by
  obtain ⟨G, m, env, S, fl, S', rs, re, e, q⟩ := h
  unfold exS at e
  obtain ⟨v, S1, e1, e⟩ := bind_inv e
  unfold evP at e1
  split at e
  · rename_i env1 ha
    cases e
    exact ⟨G, m, env, S, v, S', rs, re, e1, fun m1 V1 H1 f1 rs1 rv => ⟨m1, env, v, env1, re.fr f1 rs, .inl rv, ha, fun σ' re' _ => q m1 H1 f1 rs1 σ' re'⟩⟩
  · cases e
theorem ss_asg {t : Tg} (h : PE X e (tE X.K X.w gl kd F ce)) (hg : PG X tg (tG X.K t)) (hs : swapsWithSole [tg] e pos.line X.env = pure false) (hw : swappedStores [tg] e X.env = pure none) (h1 : (assignEach [tg] X.env).map (·.2) = [assign tg X.env]) :
    PS X (.Assign [tg] e pos) (tS X.K X.w gl kd F (.asg t ce)) := PS_imp (ps_asg (s_val h) hg hs hw h1) fun D σ H h => asg_imp h
theorem ss_asgS {o i : Expr} {co ci : CE} {tp : Pos} (hu : X.A.units + 1 < cLine) (h : PE X e (tE X.K X.w gl kd F ce)) (ho : PE X o (tE X.K X.w gl kd F co)) (hi : PE X i (tE X.K X.w gl kd F ci)) (hp : plainX i = true) (hs : swapsWithSole [.Subscript o i tp] e pos.line X.env = pure false) (hw : swappedStores [.Subscript o i tp] e X.env = pure none) :
    PS X (.Assign [.Subscript o i tp] e pos) (tS X.K X.w gl kd F (.asgS co ci ce)) := by
  have ha : ∀ v, assign (.Subscript o i tp) X.env v = (do
      let ov ← holding [v] (eval o X.env)
      let iv ← holding [v, ov] (eval i X.env)
      standAt tp
      holding [v, ov, iv] (setItem ov iv v)
      release [v, ov, iv] []) := by
    intro v
    cases i <;> first | rfl | cases hp
  refine PS_imp (ps_asg (s_val h) (pg_sub (s_val ho) (s_val hi) (set_E hu) ha) hs hw rfl) fun D σ H ⟨G, m, env, S, fl, S', rs, re, e, q⟩ => ?_
  unfold exS at e
  obtain ⟨v, S1, e1, e⟩ := bind_inv e
  obtain ⟨x, S2, e2, e⟩ := bind_inv e
  obtain ⟨y, S3, e3, e⟩ := bind_inv e
  unfold evP at e1 e2 e3
  split at e
  · rename_i S4 hput
    cases e
    refine ⟨G, m, env, S, v, S1, rs, re, e1, fun m1 V1 H1 f1 rs1 rv => ⟨G, m1, env, S1, x, S2, rs1, re.fr f1 rs, e2, fun m2 V2 H2 f2 rs2 rx => ⟨G, m2, env, S2, y, S3, rs2, (re.fr f1 rs).fr f2 rs1, e3, fun m3 V3 H3 f3 rs3 ry => ⟨G, m3, S3, x, y, v, S', rs3, rx.fr f3 rs2, ry, (rv.fr f2 rs1).fr f3 rs2, hput, fun H4 f4 rs4 => ?_⟩⟩⟩⟩
    have f := ((f1.trans f2).trans f3).trans f4
    exact q m3 H4 f rs4 σ (re.fr f rs)
  · cases e
def augI : Bop → Int → Int → Option Int
  | .add, a, b => some (a + b)
  | .sub, a, b => some (a - b)
  | _, _, _ => none
theorem ss_aug {i : Nat} {x : Str} {o : Bop} {op : Operator} {p : Pos} (ho : o.op = op) (hN : X.N.Nodup) (hi : X.N[i]? = some x) (hx : Loc X.env.scope x) (hf : X.fn x = true ∨ X.env.scope.names.lookup x = some .local) (h : PE X e (tE X.K X.w gl kd F ce)) :
    PS X (.AugAssign (.Name x p) op e pos) (tS X.K X.w gl kd F (.aug i o ce)) := by
  have key : ∀ (f : Int → Int → Int), PIp X op (ipI f) → (∀ a b, augI o a b = some (f a b)) → PS X (.AugAssign (.Name x p) op e pos) (tS X.K X.w gl kd F (.aug i o ce)) := fun f hp hfo => by
    refine PS_imp (ps_aug hN hi hx h hp hf) fun D σ H ⟨G, m, env, S, fl, S', rs, re, e, q⟩ => ?_
    unfold exS at e
    split at e
    · rename_i a ha
      obtain ⟨y, S1, e1, e⟩ := bind_inv e
      obtain ⟨V0, h0, r0⟩ := re.get i _ ha
      cases r0
      have hlt : i < env.length := (List.getElem?_eq_some_iff.mp ha).1
      split at e
      · rename_i b
        have fin : ∀ z : Int, augI o a b = some z → R.ok (Fl.nx (env.set i (some (.int z)))) S1 = R.ok fl S' → z = f a b ∧ fl = .nx (env.set i (some (.int z))) ∧ S1 = S' := fun z hz h => by
          rw [hfo] at hz
          cases hz
          cases h
          exact ⟨rfl, rfl, rfl⟩
        have fin2 : ∃ z, z = f a b ∧ fl = .nx (env.set i (some (.int z))) ∧ S1 = S' := by
          cases o with
          | add => exact ⟨_, fin _ rfl e⟩
          | sub => exact ⟨_, fin _ rfl e⟩
          | _ => cases e
        obtain ⟨z, rfl, rfl, rfl⟩ := fin2
        refine ⟨_, h0, G, m, env, S, rs, re, _, S1, e1, fun m1 V1 H1 f1 rs1 r1 n1 => ?_⟩
        cases r1
        exact ⟨a, b, rfl, rfl, q m1 H1 f1 rs1 _ ((re.fr f1 rs).set hlt (Rv.int _))⟩
      · cases e
    · cases e
  subst ho
  cases o with
  | add => exact key _ ip_add fun _ _ => rfl
  | sub => exact key _ ip_sub fun _ _ => rfl
  | _ =>
    refine ss_bad fun G env S fl S' e => ?_
    unfold exS at e
    split at e
    · obtain ⟨y, S1, e1, e⟩ := bind_inv e
      split at e <;> cases e
    · cases e
theorem ss_if {a b : List Stmt} {ca cb : List CS} (h : PT X e (tT X.K X.w gl kd F ce)) (ha : PSs X a (tSs X.K X.w gl kd F ca)) (hb : PSs X b (tSs X.K X.w gl kd F cb)) : PS X (.If e a b pos) (tS X.K X.w gl kd F (.ife ce ca cb)) := by
  refine PS_imp (ps_if h ha hb) fun D σ H ⟨G, m, env, S, fl, S', rs, re, e, q⟩ => ?_
  unfold exS at e
  obtain ⟨k, S1, e1, e⟩ := bind_inv e
  refine ⟨G, m, env, S, k, S1, rs, re, e1, fun m1 H1 f1 rs1 => ?_⟩
  have fin : ∀ {cc : List CS}, exL gl kd F G cc env S1 = .ok fl S' → tSs X.K X.w gl kd F cc D σ H1 := fun {cc} h => ⟨G, m1, env, S1, fl, S', rs1, re.fr f1 rs, h, fun m2 H2 f2 rs2 => (q m2 H2 (f1.trans f2) rs2).back f1 rs rs1⟩
  cases k with
  | true => exact fin e
  | false => exact fin e
theorem ss_whl {b : List Stmt} {cb : List CS} (hp : PassesOwn (model X.prog X.w) X.A X.env X.xe) (h : PT X e (tT X.K X.w gl kd F ce)) (hb : PSs X b (tSs X.K X.w gl kd F cb)) : PS X (.While e b [] pos) (tS X.K X.w gl kd F (.whl ce cb)) := by
  refine PS_imp (ps_while hp h hb) fun D σ H ⟨G, m, env, S, fl, S', rs, re, e, q⟩ => ?_
  unfold exS at e
  refine ⟨fun k σ' H' => ∃ m2 env2 S2, Fr G m H m2 H' ∧ RS X.K X.w m2 H' S2 ∧ REnv X.K m2 H' env2 σ' ∧ whlF (fun σ S => tst gl kd F G ce σ S) (fun σ S => exL gl kd F G cb σ S) k env2 S2 = .ok fl S', ⟨FUEL, m, env, S, Fr.refl, rs, re, e⟩, ?_⟩
  rintro k σ2 H2 ⟨m2, env2, S2, f2, rs2, re2, e⟩
  cases k with
  | zero => unfold whlF at e; cases e
  | succ k =>
    unfold whlF at e
    obtain ⟨kk, S3, e1, e⟩ := bind_inv e
    refine ⟨G, m2, env2, S2, kk, S3, rs2, re2, e1, fun m3 H3 f3 rs3 => ?_⟩
    cases kk with
    | true =>
      rw [if_pos rfl] at e
      refine ⟨_, fun σ' H' p => ⟨k, Nat.lt_succ_self k, p⟩, ?_⟩
      obtain ⟨fl2, S4, e2, e⟩ := bind_inv e
      refine ⟨G, m3, env2, S3, fl2, S4, rs3, re2.fr f3 rs2, e2, fun m4 H4 f4 rs4 => ?_⟩
      have F4 := (f2.trans f3).trans f4
      cases fl2 with
      | nx env4 => exact fun σ4 re4 => ⟨m4, env4, S4, F4, rs4, re4, e⟩
      | ct env4 => exact fun σ4 re4 => ⟨m4, env4, S4, F4, rs4, re4, e⟩
      | bk env4 => cases e; exact q m4 H4 F4 rs4
      | rt v => cases e; exact (q m4 H4 F4 rs4).back (f2.trans f3) rs rs3
    | false =>
      rw [if_neg (by decide)] at e
      cases e
      exact q m3 H3 (f2.trans f3) rs3 _ (re2.fr f3 rs2)
theorem ss_frr {b : List Stmt} {cb : List CS} {t : Tg} {it : CI} (hp : PassesOwn (model X.prog X.w) X.A X.env X.xe) (hc : X.calm = true) (hi : PI X tg iter (tI X.K X.w gl kd F t.tupled it)) (hg : PG X tg (tG X.K t)) (hb : PSs X b (tSs X.K X.w gl kd F cb)) (hs : ∀ x, foldedSetIterable iter X.env x = pure x) :
    PS X (.For tg iter b [] pos) (tS X.K X.w gl kd F (.frr t it cb)) := by
  refine PS_imp (ps_for hp hc hi hg hb hs) fun D σ H ⟨G, m, env, S, fl, S', rs, re, e, q⟩ => ?_
  unfold exS at e
  obtain ⟨wk, S1, e1, e⟩ := bind_inv e
  refine ⟨G, m, env, S, wk, S1, rs, re, e1, fun m1 J H1 f1 rs1 wo => ?_⟩
  refine ⟨fun i k σ' H' => k = wk.items.length - i ∧ i ≤ wk.items.length ∧ ∃ m2 env2 S2, Fr (G.more wk.frz) m1 H1 m2 H' ∧ RS X.K X.w m2 H' S2 ∧ REnv X.K m2 H' env2 σ' ∧ forF G t (fun σ S => exL gl kd F (G.more wk.frz) cb σ S) (wk.items.drop i) env2 S2 = .ok fl S', ⟨_, rfl, Nat.zero_le _, m1, env, S1, Fr.refl, rs1, re.fr f1 rs, e⟩, ?_⟩
  rintro i k σ2 H2 ⟨rfl, hi, m2, env2, S2, f2, rs2, re2, el⟩
  have run := wo.run m2 H2 f2
  by_cases hlt : i < wk.items.length
  · refine .inr ⟨run.1 i hlt, _, fun σ' H' p => ⟨_, by omega, rfl, hlt, p⟩, fun x H3 y => ?_⟩
    obtain ⟨sm, rb⟩ := run.2.2 i _ x H3 (List.getElem?_eq_getElem hlt) y
    rw [List.drop_eq_getElem_cons hlt] at el
    unfold forF at el
    split at el
    · cases el
    · rename_i env3 hasg
      obtain ⟨fl2, S4, e2, el⟩ := bind_inv el
      have rs2' := rs2.same sm
      refine ⟨m2, env2, _, env3, re2.same sm, rb, hasg, fun σ3 re3 _ => ⟨G.more wk.frz, m2, env3, S2, fl2, S4, rs2', re3, e2, fun m4 H4 f4 rs4 => ?_⟩⟩
      have F4 := (f2.trans (Fr.of_same sm rs2)).trans f4
      cases fl2 with
      | nx env4 => exact fun σ4 re4 => ⟨m4, env4, S4, F4, rs4, re4, el⟩
      | ct env4 => exact fun σ4 re4 => ⟨m4, env4, S4, F4, rs4, re4, el⟩
      | bk env4 => cases el; exact q m4 H4 (f1.trans F4.less) rs4
      | rt v => cases el; exact (q m4 H4 (f1.trans F4.less) rs4).back (f1.trans (f2.trans (Fr.of_same sm rs2)).less) rs rs2'
  · have e : i = wk.items.length := by omega
    subst e
    rw [List.drop_length] at el
    unfold forF at el
    cases el
    exact .inl ⟨run.2.1, q m2 H2 (f1.trans f2.less) rs2 σ2 re2⟩
end
end Mp
end partM17

section partM18
set_option Elab.async false
set_option linter.all false
set_option maxRecDepth 100000
/-! M18: every statement. -/
namespace Mp
open PySem PySem.Spec PyProof.Rows L2
structure GoodS (P : Pg) (k : Nat) (c : CC) (X : Cx) : Prop where
  g : Good P k c X
  scope : X.env.scope = c.sc
  kind : c.sc.kind = .function
  own : PassesOwn (model X.prog X.w) X.A X.env X.xe
section
variable {P : Pg} {k n : Nat} {c : CC} {X : Cx}
theorem GoodS.kindOf (g : GoodS P k c X) (x : Str) : X.env.kindOf x = c.kind x := by
  show X.env.scope.names.lookup x = c.sc.names.lookup x
  rw [g.scope]
theorem GoodS.blockKind (g : GoodS P k c X) : X.env.blockKind = .function := by
  unfold PySem.Env.blockKind
  rw [g.scope, g.kind]
  rfl
theorem swap_cases (e : Expr) (env : PySem.Env) (line : Nat) : (∃ elt gens sc p, e = .ListComp elt gens sc p) ∨ (∀ n c, cE n c e = .bad) ∨ (∀ t, swapsWith e t line env = pure false) := by
  cases e <;> first | exact .inl ⟨_, _, _, _, rfl⟩ | exact .inr (.inr fun t => rfl) | exact .inr (.inl fun n c => by cases n <;> rfl)
theorem swap_tup {ts : List Expr} {kk : Nat} {p : Pos} {e : Expr} {line : Nat} {env : PySem.Env} : swapsWithSole [.Tuple ts kk p] e line env = pure false := by cases e <;> rfl
theorem swap_sub {o i : Expr} {p : Pos} {e : Expr} {line : Nat} {env : PySem.Env} : swapsWithSole [.Subscript o i p] e line env = pure false := by cases e <;> rfl
theorem stores_name {x : Str} {p : Pos} {e : Expr} {env : PySem.Env} : swappedStores [.Name x p] e env = pure none := rfl
theorem stores_sub {o i : Expr} {p : Pos} {e : Expr} {env : PySem.Env} : swappedStores [.Subscript o i p] e env = pure none := rfl
theorem starQ_eq : (fun | .Starred .. => true | _ => false : Expr → Bool) = starQ := by
  funext e
  cases e <;> rfl
theorem swp_ok {ts vs : List Expr} {kk k2 : Nat} {p p2 : Pos} {r : Option (List Str)} (g : GoodS P k c X) (h : swp c ts vs = some r) : swappedStores [.Tuple ts kk p] (.Tuple vs k2 p2) X.env = pure r := by
  unfold swappedStores
  unfold swp at h
  rw [g.blockKind]
  dsimp only at h ⊢
  simp only [GoodS.kindOf g]
  generalize hL : (Option.map (fun x : Expr => x.pos.line) ts.head?).getD 0 = L at h ⊢
  change (if (!(ts.length == 2 || ts.length == 3) || vs.length != ts.length || false) = true then pure none else if vs.any starQ = true then pure none else
    if ((ts.filterMap (nmAt c L)).length != ts.length || (ts.filterMap (nmAt c L)).eraseDups.length != (ts.filterMap (nmAt c L)).length) = true then pure none else
    if vs.all (foldedForSure 8) = true then pure none else if vs.all (constantsAlone 8) = true then (do unsupported "assign.tuple-of-constant-expressions:order-of-the-stores"; pure (some (ts.filterMap (nmAt c L)))) else pure (some (ts.filterMap (nmAt c L))) : Sem (Option (List Str))) = pure r
  rw [Bool.or_false]
  split at h
  · rename_i h1; rw [if_pos h1]; cases h; rfl
  · rename_i h1
    rw [if_neg h1]
    split at h
    · rename_i h2; rw [if_pos h2]; cases h; rfl
    · rename_i h2
      rw [if_neg h2]
      split at h
      · rename_i h3; rw [if_pos h3]; cases h; rfl
      · rename_i h3
        rw [if_neg h3]
        split at h
        · rename_i h4; rw [if_pos h4]; cases h; rfl
        · rename_i h4
          rw [if_neg h4]
          split at h
          · cases h
          · rename_i h5; rw [if_neg h5]; cases h; rfl
theorem lcSwap_ok {x : Str} {p lp : Pos} {elt : Expr} {gens : List Comprehension} {scope : Scope} {line : Nat} (g : GoodS P k c X) : swapsWith (.ListComp elt gens scope lp) (some (.Name x p)) line X.env = pure (lcSwap c x p scope lp) := by
  unfold swapsWith lcSwap
  rw [← g.kindOf, g.blockKind]
  rfl
theorem bad_asg {t : Tg} : BadS P.gl P.kd (callF P k) (.asg t .bad) := fun G env S fl S' e => by
  unfold exS evP evE at e
  cases e
theorem bad_s : BadS P.gl P.kd (callF P k) .bad := fun G env S fl S' e => by
  unfold exS at e
  cases e
theorem isLoc_inv {e : Expr} {x : Str} {i : Nat} (h : isLoc c e = some (x, i)) : (∃ p, e = .Name x p) ∧ c.kind x = some .local ∧ c.N[i]? = some x := by
  unfold isLoc at h
  split at h
  · split at h
    · rename_i hk
      obtain ⟨j, hj, e⟩ := Option.map_eq_some_iff.mp h
      cases e
      exact ⟨⟨_, rfl⟩, hk, lkS_get hj⟩
    · cases h
  · cases h
theorem st_asgN {x : Str} {p pos : Pos} {e : Expr} {i : Nat} (g : GoodS P k c X) (hs : c.tslot x = some i) : PS X (.Assign [.Name x p] e pos) (tS X.K X.w P.gl P.kd (callF P k) (.asg (.var i) (cE EF c e))) := by
  have ih := ih_all P k EF
  have hg : PG X (.Name x p) (tG X.K (.var i)) := s_tg g.g.tg 1 _ _ (by unfold cT; show Option.map Tg.var (c.tslot x) = _; rw [hs]; rfl)
  have gen : swapsWithSole [.Name x p] e pos.line X.env = pure false → PS X (.Assign [.Name x p] e pos) (tS X.K X.w P.gl P.kd (callF P k) (.asg (.var i) (cE EF c e))) := fun h => ss_asg (ih.e c X e g.g) hg h stores_name rfl
  rcases swap_cases e X.env pos.line with ⟨elt, gens, sc, lp, rfl⟩ | h | h
  · have hsw : swapsWithSole [.Name x p] (.ListComp elt gens sc lp) pos.line X.env = pure (lcSwap c x p sc lp) := lcSwap_ok (line := pos.line) g
    cases hb : lcSwap c x p sc lp with
    | false => rw [hb] at hsw; exact gen hsw
    | true =>
      rw [hb] at hsw
      have hloc : c.kind x = some .local := by
        unfold lcSwap at hb
        simp only [Bool.and_eq_true, beq_iff_eq] at hb
        exact hb.1.1
      have bad : PS X (.Assign [.Name x p] (.ListComp elt gens sc lp) pos) (tS X.K X.w P.gl P.kd (callF P k) (.asg (.var i) .bad)) := ss_bad bad_asg
      have hi : X.N[i]? = some x := by
        unfold CC.tslot at hs
        split at hs
        · rw [g.g.N]; exact lkS_get hs
        · cases hs
      have ih := ih_all P k 59
      show PS X _ (tS X.K X.w P.gl P.kd (callF P k) (.asg (.var i) (cE (59 + 1) c _)))
      unfold cE
      dsimp only
      split
      · rename_i tg iter ifs
        split
        · rename_i hbl
          split
          · rename_i t ht
            split
            · rename_i hc
              rw [Bool.and_eq_true, decide_eq_true_eq] at hc
              obtain ⟨i1, i2⟩ := st_iter (tg := tg) (it := iter) ih g.g t.tupled (cT_tup ht)
              by_cases hbad : cI c (cE 59 c) tg iter = .bad
              · refine ss_bad fun G env S fl S' e => ?_
                unfold exS evP evE at e
                rw [hbad] at e
                obtain ⟨v, S1, e1, e⟩ := bind_inv e
                obtain ⟨v2, S2, e2, e1⟩ := bind_inv e1
                obtain ⟨wk, S3, e3, e2⟩ := bind_inv e2
                unfold evI at e3
                cases e3
              · refine PS_imp (ps_setLc (i := i) (g := tG X.K t) (tt := tTs X.K X.w P.gl P.kd (callF P k) (ifs.map (cE 59 ⟨c.N, sc, c.T⟩))) (te := tV X.K X.w P.gl P.kd (callF P k) (cE 59 ⟨c.N, sc, c.T⟩ elt)) g.g.calm (by rw [g.g.N]; exact g.g.nd) hi (by rw [g.scope]; exact hloc) hsw i1 (g.g.blkOk hbl) (fun s H C fp cl => s_tg g.g.blk.tg 59 tg t ht) (fun s H C cl fp => ?_) (fun s H C cl fp => s_val (ih.e _ _ elt g.g.blk)) (i2 hbad)) fun D σ H h => ?_
                · cases ifs with
                  | nil => exact s_ts0
                  | cons e r =>
                    cases r with
                    | nil => exact s_ts1 (ih.t _ _ e g.g.blk)
                    | cons e' r => simp at hc
                · obtain ⟨G, m, env, S, fl, S', rs, re, e, q⟩ := h
                  unfold exS at e
                  obtain ⟨v, S1, e1, e⟩ := bind_inv e
                  unfold evP at e1
                  obtain ⟨x', S2, e2, e1⟩ := bind_inv e1
                  refine lc_imp hc.1 ⟨G, m, env, S, rs, re, x', S2, e2, fun m1 V1 H1 f1 rs1 r1 n1 => ?_⟩
                  obtain ⟨m2, f2, rs2, r2, _⟩ := mat_ok rs f1 rs1 r1 n1 e1
                  unfold asgT at e
                  split at e
                  · rename_i env1 ha
                    split at ha
                    · rename_i hlt
                      cases ha
                      cases e
                      exact q m2 H1 f2 rs2 _ ((re.fr f2 rs).set hlt r2)
                    · cases ha
                  · cases e
            · exact bad
          · exact bad
        · exact bad
      · exact bad
  · rw [h]
    exact ss_bad bad_asg
  · exact gen (h (some (.Name x p)))
theorem asgV {K : PySem.W.Frag} {m : MP} {H : Hp} {i : Nat} {ts : List Tg} {xs : List PV} {Vs : List V} {env env' : Env} (h : asgTs (.var i :: ts) xs env = some env') (r : RvL K m H xs Vs) :
    ∃ x xs' V' Vs', Vs = V' :: Vs' ∧ Rv K m H x V' ∧ RvL K m H xs' Vs' ∧ i < env.length ∧ asgTs ts xs' (env.set i (some x)) = some env' := by
  cases r with
  | nil => unfold asgTs at h; cases h
  | cons ra t =>
    unfold asgTs at h
    split at h
    · cases h
    · rename_i x xs ex
      cases ex
      split at h
      · rename_i e1 ha1
        unfold asgT at ha1
        split at ha1
        · cases ha1
          exact ⟨_, _, _, _, rfl, ra, t, by assumption, h⟩
        · cases ha1
      · cases h
theorem asgN {K : PySem.W.Frag} {m : MP} {H : Hp} {xs : List PV} {Vs : List V} {env env' : Env} (h : asgTs [] xs env = some env') (r : RvL K m H xs Vs) : Vs = [] ∧ env' = env := by
  cases r with
  | nil => unfold asgTs at h; cases h; exact ⟨rfl, rfl⟩
  | cons _ _ => unfold asgTs at h; cases h
theorem mapM_loc {ts : List Expr} {e : Expr} {l : List (Str × Nat)} (h : (e :: ts).mapM (isLoc c) = some l) : ∃ q l', isLoc c e = some q ∧ ts.mapM (isLoc c) = some l' ∧ l = q :: l' := by
  rw [List.mapM_cons] at h
  cases h1 : isLoc c e with
  | none => rw [h1] at h; cases h
  | some q =>
    rw [h1] at h
    cases h2 : ts.mapM (isLoc c) with
    | none => rw [h2] at h; cases h
    | some l' => rw [h2] at h; cases h; exact ⟨q, l', rfl, rfl, rfl⟩
theorem st_par {ts vs : List Expr} {kk k2 : Nat} {p p2 pos : Pos} {ns : List Str} {l : List (Str × Nat)} (g : GoodS P k c X) (h : swp c ts vs = some (some ns)) (hm : ts.mapM (isLoc c) = some l) (hn : l.map (·.1) = ns) (hne : allNe (l.map (·.2)) = true) (hp : vs.all plainX = true) (hlen : vs.length = ts.length) :
    PS X (.Assign [.Tuple ts kk p] (.Tuple vs k2 p2) pos) (tS X.K X.w P.gl P.kd (callF P k) (.asg (.tup (l.map fun q => .var q.2)) (.tup (vs.map (cE EF c))))) := by
  have hw := swp_ok (kk := kk) (k2 := k2) (p := p) (p2 := p2) g h
  have hL := (ih_all P k EF).L g.g hp
  have two : ts.length = 2 ∨ ts.length = 3 := by
    unfold swp at h
    split at h
    · cases h
    · rename_i h1
      simp only [Bool.or_eq_true, Bool.not_eq_true', Bool.or_eq_false_iff, beq_eq_false_iff_ne, ne_eq, bne_iff_ne, not_or, not_and, Decidable.not_not] at h1
      by_cases h2 : ts.length = 2
      · exact .inl h2
      · exact .inr (h1.1 h2)
  have hN : X.N.Nodup := by rw [g.g.N]; exact g.g.nd
  have loc : ∀ {x : Str}, c.kind x = some .local → X.env.scope.names.lookup x = some .local := fun {x} h => by rw [g.scope]; exact h
  have val : ∀ {tg : Tg} {ces : List CE} {D : Ends} {σ : L2.St} {H : Hp}, tS X.K X.w P.gl P.kd (callF P k) (.asg tg (.tup ces)) D σ H →
      QL P k X ces σ H fun Vs H1 => ∃ m env vs env', REnv X.K m H1 env σ ∧ RvL X.K m H1 vs Vs ∧ asgT tg (.tup vs) env = some env' ∧ ∀ σ', REnv X.K m H1 env' σ' → D.nx σ' H1 := by
    rintro tg ces D σ H ⟨G, m, env, S, fl, S', rs, re, e, q⟩
    unfold exS at e
    obtain ⟨v, S1, e1, e⟩ := bind_inv e
    unfold evP at e1
    obtain ⟨x, S2, e2, e1⟩ := bind_inv e1
    unfold evE at e2
    obtain ⟨vs, S3, e3, e2⟩ := bind_inv e2
    split at e2
    · cases e2
      cases e1
      split at e
      · rename_i env1 ha
        cases e
        exact ⟨G, m, env, S, vs, S', rs, re, e3, fun m1 Vs H1 f1 rs1 r1 => ⟨m1, env, vs, env1, re.fr f1 rs, r1, ha, fun σ' re' => q m1 H1 f1 rs1 σ' re'⟩⟩
      · cases e
    · cases e2
  rcases two with h2 | h2
  · obtain ⟨t1, t2, rfl⟩ : ∃ a b, ts = [a, b] := by
      match ts, h2 with
      | [a, b], _ => exact ⟨a, b, rfl⟩
    obtain ⟨a, b, rfl⟩ : ∃ a b, vs = [a, b] := by
      have := hlen.trans h2
      match vs, this with
      | [a, b], _ => exact ⟨a, b, rfl⟩
    obtain ⟨q1, l1, h1, hm1, rfl⟩ := mapM_loc hm
    obtain ⟨q2, l2, h3, hm2, rfl⟩ := mapM_loc hm1
    cases hm2
    subst hn
    obtain ⟨⟨px, rfl⟩, k1, n1⟩ := isLoc_inv (x := q1.1) (i := q1.2) h1
    obtain ⟨⟨py, rfl⟩, k2', n2⟩ := isLoc_inv (x := q2.1) (i := q2.2) h3
    have hij : q1.2 ≠ q2.2 := by
      intro z
      simp [allNe, z] at hne
    refine PS_imp (ps_par g.g.calm hN (by rw [g.g.N]; exact n1) (by rw [g.g.N]; exact n2) hij (loc k1) (loc k2') hL hw swap_tup) fun D σ H h => ?_
    obtain ⟨G, m, env, S, vs, S', rs, re, e, q⟩ := val h
    refine ⟨G, m, env, S, vs, S', rs, re, e, fun m1 Vs H1 f1 rs1 r1 => ?_⟩
    obtain ⟨m2, env2, vs2, env', re2, r2, ha, hd⟩ := q m1 Vs H1 f1 rs1 r1
    unfold asgT at ha
    obtain ⟨x, xs, V1, Vs1, rfl, ra, r2, la, ha⟩ := asgV ha r2
    obtain ⟨y, ys, V2, Vs2, rfl, rb, r2, lb, ha⟩ := asgV ha r2
    obtain ⟨rfl, rfl⟩ := asgN ha r2
    exact ⟨_, _, rfl, hd _ ((re2.set la ra).set lb rb)⟩
  · obtain ⟨t1, t2, t3, rfl⟩ : ∃ a b d, ts = [a, b, d] := by
      match ts, h2 with
      | [a, b, d], _ => exact ⟨a, b, d, rfl⟩
    obtain ⟨a, b, d, rfl⟩ : ∃ a b d, vs = [a, b, d] := by
      have := hlen.trans h2
      match vs, this with
      | [a, b, d], _ => exact ⟨a, b, d, rfl⟩
    obtain ⟨q1, l1, h1, hm1, rfl⟩ := mapM_loc hm
    obtain ⟨q2, l2, h3, hm2, rfl⟩ := mapM_loc hm1
    obtain ⟨q3, l3, h4, hm3, rfl⟩ := mapM_loc hm2
    cases hm3
    subst hn
    obtain ⟨⟨px, rfl⟩, k1, n1⟩ := isLoc_inv (x := q1.1) (i := q1.2) h1
    obtain ⟨⟨py, rfl⟩, k2', n2⟩ := isLoc_inv (x := q2.1) (i := q2.2) h3
    obtain ⟨⟨pz, rfl⟩, k3, n3⟩ := isLoc_inv (x := q3.1) (i := q3.2) h4
    have hij : q1.2 ≠ q2.2 := by
      intro z
      simp [allNe, z] at hne
    have hil : q1.2 ≠ q3.2 := by
      intro z
      simp [allNe, z] at hne
    have hjl : q2.2 ≠ q3.2 := by
      intro z
      simp [allNe, z] at hne
    refine PS_imp (ps_par3 g.g.calm hN (by rw [g.g.N]; exact n1) (by rw [g.g.N]; exact n2) (by rw [g.g.N]; exact n3) hij hil hjl (loc k1) (loc k2') (loc k3) hL hw swap_tup) fun D σ H h => ?_
    obtain ⟨G, m, env, S, vs, S', rs, re, e, q⟩ := val h
    refine ⟨G, m, env, S, vs, S', rs, re, e, fun m1 Vs H1 f1 rs1 r1 => ?_⟩
    obtain ⟨m2, env2, vs2, env', re2, r2, ha, hd⟩ := q m1 Vs H1 f1 rs1 r1
    unfold asgT at ha
    obtain ⟨x, xs, V1, Vs1, rfl, ra, r2, la, ha⟩ := asgV ha r2
    obtain ⟨y, ys, V2, Vs2, rfl, rb, r2, lb, ha⟩ := asgV ha r2
    obtain ⟨z, zs, V3, Vs3, rfl, rc, r2, lc, ha⟩ := asgV ha r2
    obtain ⟨rfl, rfl⟩ := asgN ha r2
    exact ⟨_, _, _, rfl, hd _ (((re2.set la ra).set lb rb).set lc rc)⟩
theorem st_asg {tg e : Expr} {pos : Pos} (g : GoodS P k c X) : PS X (.Assign [tg] e pos) (tS X.K X.w P.gl P.kd (callF P k) (cAsg c tg e)) := by
  have ih := ih_all P k EF
  have tup : ∀ {ts : List Expr} {kk : Nat} {p : Pos} {t : Tg}, cT c EF (.Tuple ts kk p) = some t → swappedStores [.Tuple ts kk p] e X.env = pure none → PS X (.Assign [.Tuple ts kk p] e pos) (tS X.K X.w P.gl P.kd (callF P k) (.asg t (cE EF c e))) := fun h hw =>
    ss_asg (ih.e c X e g.g) (s_tg g.g.tg EF _ _ h) swap_tup hw rfl
  unfold cAsg
  split
  · split
    · rename_i i hi
      exact st_asgN g hi
    · exact ss_bad bad_s
  · split
    · rename_i vs k2 p2
      split
      · rename_i hs
        split
        · rename_i t ht
          exact tup ht (swp_ok g hs)
        · exact ss_bad bad_s
      · rename_i ns hs
        split
        · rename_i l hl
          split
          · rename_i hc
            exact st_par g hs hl hc.1 hc.2.1 hc.2.2.1 hc.2.2.2
          · exact ss_bad bad_s
        · exact ss_bad bad_s
      · exact ss_bad bad_s
    · rename_i hne
      split
      · rename_i t ht
        refine tup ht ?_
        cases e <;> first | rfl | exact absurd rfl (hne _ _ _)
      · exact ss_bad bad_s
  · rename_i o i p
    split
    · rename_i hp
      exact ss_asgS g.g.hu1 (ih.e c X e g.g) (ih.e c X o g.g) (ih.e c X i g.g) hp swap_sub stores_sub
    · exact ss_bad bad_s
  · exact ss_bad bad_s
end
section
variable {P : Pg} {k : Nat} {c : CC} {X : Cx}
mutual
theorem st_s (g : GoodS P k c X) : ∀ (n : Nat) (s : Stmt), PS X s (tS X.K X.w P.gl P.kd (callF P k) (cS n c s))
  | 0, s => ss_bad bad_s
  | n + 1, s => by
    have ih := ih_all P k EF
    have bad : ∀ {s : Stmt}, PS X s (tS X.K X.w P.gl P.kd (callF P k) .bad) := fun {s} => ss_bad bad_s
    have ssn : ∀ r : List Stmt, PSs X r (tSs X.K X.w P.gl P.kd (callF P k) (r.map (cS n c))) := st_ss g n
    unfold cS
    split
    · exact ss_pass
    · exact ss_brk
    · exact ss_cont
    · split
      · exact ss_doc
      · exact bad
      · rename_i e p e2 h1 h2
        rcases swap_cases e X.env p.line with ⟨elt, gens, sc, lp, rfl⟩ | h | h
        · exact absurd rfl (h2 _ _ _ _)
        · rw [h]
          refine ss_bad fun G env S fl S' e => ?_
          unfold exS evE at e
          cases e
        · exact ss_exp (ih.e c X e g.g) (h none)
    · exact ss_ret (ih.e c X _ g.g)
    · exact ss_retN
    · exact st_asg g
    · rename_i x p op e pos
      split
      · rename_i i o hi ho
        unfold CC.tslot at hi
        split at hi
        · rename_i hk
          obtain ⟨h1, h2⟩ := g.g.tg.loc x hk
          exact ss_aug (cBop_op ho) (by rw [g.g.N]; exact g.g.nd) (by rw [g.g.N]; exact lkS_get hi) h1 h2 (ih.e c X e g.g)
        · cases hi
      · exact bad
    · exact ss_if (ih.t c X _ g.g) (ssn _) (ssn _)
    · exact ss_whl g.own (ih.t c X _ g.g) (ssn _)
    · rename_i tg it b pos
      split
      · rename_i t ht
        obtain ⟨i1, i2⟩ := st_iter (tg := tg) (it := it) ih g.g t.tupled (cT_tup ht)
        by_cases hbad : cI c (cE EF c) tg it = .bad
        · rw [hbad]
          refine ss_bad fun G env S fl S' e => ?_
          unfold exS at e
          obtain ⟨wk, S1, e1, e⟩ := bind_inv e
          unfold evI at e1
          cases e1
        · exact ss_frr g.own g.g.calm i1 (s_tg g.g.tg EF tg t ht) (ssn _) (i2 hbad)
      · exact bad
    · exact bad
theorem st_ss (g : GoodS P k c X) : ∀ (n : Nat) (r : List Stmt), PSs X r (tSs X.K X.w P.gl P.kd (callF P k) (r.map (cS n c)))
  | n, [] => ss_nil
  | n, s :: r => ss_cons (st_s g n s) (st_ss g n r)
end
end
end Mp
end partM18

section partM19
set_option Elab.async false
set_option linter.all false
set_option maxRecDepth 100000
/-! M19: every def keeps what Mp says of it. -/
namespace Mp
open PySem PySem.Spec PyProof.Rows L2
/-- a def of the text: its parameters, its slots, its mode -/
structure DD where
  name : Str
  ps : List Str
  N : List Str
  md : Nat
  args : Arguments
  body : List Stmt
  scope : Scope
abbrev KW := List (Nat × Nat × List Str × List Nat)
structure LD where
  ds : List DD
  gls : List (Str × PV)
  kds : List (Str × KD)
  kws : KW
def LD.T (L : LD) : Tab := ⟨L.ds.map fun d => (d.name, d.ps), L.gls.map (·.1), L.kds.map (·.1), L.kws⟩
def LD.df (L : LD) (d : DD) : Def := ⟨d.ps.length, d.N.length, d.md, d.body.map (cS EF ⟨d.N, d.scope, L.T⟩)⟩
def LD.P (L : LD) : Pg := ⟨L.gls.map (·.2), L.kds.map (·.2), L.ds.map L.df⟩
/-! #### behind a body -/
section
variable {K : PySem.W.Frag} {w : World} {m m' : MP} {H H' : Hp} {S S' : Sto} {G : Grd}
theorem mp_low (f : Fr G m H m' H') (rs : RS K w m H S) : ∀ l, l < S.length → m' l = m l := fun l h => by
  obtain ⟨a, h1, _⟩ := rs.obj l S[l] (List.getElem?_eq_getElem h)
  rw [h1, f.le l a h1]
/-- the result of a body, for the caller -/
theorem leave_ok {v v' : EV} {V' : V} {T S2 : Sto} (f : Fr G m H m' H') (rs : RS K w m H S) (rs' : RS K w m' H' S') (r : RelE K w m' H' v V') (n : FrE H v V') (e : leave S.length v T S' = .ok v' S2) : S2 = T ∧ RelE K w m H' v' V' ∧ FrE H v' V' := by
  have low := mp_low f rs
  have nin : ∀ {a : Addr}, (∀ l, m' l ≠ some a) → ∀ l, m l ≠ some a := fun h l z => h l (f.le _ _ z)
  cases v with
  | tmp o =>
    unfold leave at e
    dsimp only at e
    split at e
    · rename_i hb
      cases e
      obtain ⟨a, rfl, h1, h2⟩ := r
      exact ⟨rfl, ⟨a, rfl, h1.down low hb, nin h2⟩, n⟩
    · cases e
  | val x =>
    unfold leave at e
    dsimp only at e
    split at e
    · rename_i hb
      cases e
      exact ⟨rfl, Rv.down low hb r, trivial⟩
    · rename_i hb
      split at e
      · rename_i l
        split at e
        · rename_i o ho
          split at e
          · rename_i hbo
            cases e
            cases r with
            | ref hm =>
            rename_i a
            obtain ⟨o', q1, q2⟩ := rs'.here hm
            rw [ho] at q1
            cases q1
            have hl : ¬ l < S.length := fun z => hb (decide_eq_true z)
            have na : ∀ j, m j ≠ some a := fun j z => by
              have := rs'.inj _ _ _ (f.le _ _ z) hm
              subst this
              exact hl (rs.dom _ _ z)
            refine ⟨rfl, ⟨a, rfl, q2.down low hbo, na⟩, fun b eb => ?_⟩
            cases eb
            cases q : H a with
            | none => rfl
            | some u => exact absurd hm ((f.un a u q na).2 l)
          · cases e
        · cases e
      · cases e
theorem Rv.keep {x : PV} {v : V} (f : Fr G m H m' H') (rs : RS K w m H S) (r : Rv K m H x v) : Rv K m H' x v := RS.put.rv_keep (fun t => t.fr f rs) (fun t => t.fr f rs) r
theorem RvL.keep {x : List PV} {v : List V} (f : Fr G m H m' H') (rs : RS K w m H S) (r : RvL K m H x v) : RvL K m H' x v := RS.put.rvl_keep (fun t => t.fr f rs) (fun t => t.fr f rs) r
theorem RkL.keep {x : List (PK × PV)} {v : List (Key × V)} (f : Fr G m H m' H') (rs : RS K w m H S) (r : RkL K m H x v) : RkL K m H' x v := RS.put.rkl_keep (fun t => t.fr f rs) (fun t => t.fr f rs) r
/-- a body that wrote nothing of ours -/
theorem RS.shut (f : Fr ⟨S.length, []⟩ m H m' H') (rs : RS K w m H S) : RS K w m H' S ∧ Fr G m H m H' := by
  have same : ∀ l a, m l = some a → H' a = H a := fun l a h => f.pr l a h (by
    have := rs.dom l a h
    unfold Grd.ok
    rw [decide_eq_false (by show ¬ S.length ≤ l; omega)]
    rfl)
  refine ⟨⟨fun l o e => ?_, rs.inj, rs.dom⟩, ⟨fun _ _ h => h, fun a o h n => ⟨(f.un a o h n).1, n⟩, fun l a h _ => same l a h⟩⟩
  obtain ⟨a, h1, h2⟩ := rs.obj l o e
  refine ⟨a, h1, ?_⟩
  cases o with
  | lst xs => obtain ⟨vs, q1, q2⟩ := h2; exact ⟨vs, by rw [same l a h1]; exact q1, q2.keep f rs⟩
  | dct kvs => obtain ⟨vs, q1, q2⟩ := h2; exact ⟨vs, by rw [same l a h1]; exact q1, q2.keep f rs⟩
  | set ns => exact ⟨by rw [same l a h1]; exact h2.1, h2.2⟩
theorem stoBel_get {n : Nat} : ∀ {S : Sto} {l : Nat} {o : PO}, stoBel n S = true → S[l]? = some o → o.bel n = true
  | [], _, _, _, e => by simp at e
  | x :: S, 0, o, h, e => by
    simp at e
    subst e
    exact (Bool.and_eq_true_iff.mp h).1
  | x :: S, l + 1, o, h, e => stoBel_get (Bool.and_eq_true_iff.mp h).2 (by simpa using e)
/-- a body that left nothing of its own in ours -/
theorem RS.cut (f : Fr G m H m' H') (rs : RS K w m H S) (rs' : RS K w m' H' S') (hb : stoBel S.length (S'.take S.length) = true) (hl : S.length ≤ S'.length) : RS K w m H' (S'.take S.length) ∧ Fr G m H m H' := by
  have low := mp_low f rs
  refine ⟨⟨fun l o e => ?_, rs.inj, fun l a h => ?_⟩, ⟨fun _ _ h => h, fun a o h n => ⟨(f.un a o h n).1, n⟩, f.pr⟩⟩
  · have hl' : l < S.length := by
      have := (List.getElem?_eq_some_iff.mp e).1
      rw [List.length_take] at this
      omega
    have e' : S'[l]? = some o := by rw [List.getElem?_take_of_lt hl'] at e; exact e
    obtain ⟨a, h1, h2⟩ := rs'.obj l o e'
    exact ⟨a, by rw [← low l hl']; exact h1, h2.down low (stoBel_get hb e)⟩
  · rw [List.length_take]
    have := rs.dom l a h
    omega
theorem RS.grow (f : Fr G m H m' H') (rs : RS K w m H S) (rs' : RS K w m' H' S') : S.length ≤ S'.length := by
  by_cases h : S.length = 0
  · omega
  · obtain ⟨a, h1, _⟩ := rs.obj (S.length - 1) S[S.length - 1] (List.getElem?_eq_getElem (by omega))
    have := rs'.dom _ _ (f.le _ _ h1)
    omega
theorem ret_ok {md : Nat} {v v' : EV} {V' : V} {S2 : Sto} (f : Fr (if md = 3 then ⟨S.length, []⟩ else G) m H m' H') (rs : RS K w m H S) (rs' : RS K w m' H' S') (r : RelE K w m' H' v V') (n : FrE H v V') (e : retE md S.length v S S' = .ok v' S2) :
    ∃ m2, Fr G m H m2 H' ∧ RS K w m2 H' S2 ∧ RelE K w m2 H' v' V' ∧ FrE H v' V' := by
  unfold retE at e
  split at e
  · rw [if_pos rfl] at f
    obtain ⟨rfl, h2, h3⟩ := leave_ok f rs rs' r n e
    obtain ⟨q1, q2⟩ := rs.shut (G := G) f
    exact ⟨m, q2, q1, h2, h3⟩
  · rw [if_neg (by decide)] at f
    split at e
    · rename_i hb
      obtain ⟨rfl, h2, h3⟩ := leave_ok f rs rs' r n e
      obtain ⟨q1, q2⟩ := rs.cut f rs' hb (rs.grow f rs')
      exact ⟨m, q2, q1, h2, h3⟩
    · cases e
  · rename_i h0 h1
    rw [if_neg (fun z => h0 z)] at f
    cases e
    exact ⟨m', f, rs', r, n⟩
theorem start_ok {N : List Str} {as : List PV} {vs : List V} (r : RvL K m H as vs) : REnv K m H (startE N.length as) (L2.start N vs) := by
  refine ⟨?_, fun i v h => ?_⟩
  · unfold startE L2.start
    simp [r.length]
  · unfold startE at h
    unfold L2.start
    by_cases hi : i < as.length
    · rw [List.getElem?_append_left (by simpa using hi), List.getElem?_map, Option.map_eq_some_iff] at h
      obtain ⟨x, h1, h2⟩ := h
      cases h2
      obtain ⟨V', h3, h4⟩ := r.get h1
      refine ⟨V', ?_, h4⟩
      rw [List.getElem?_append_left (by have := r.length; simp; omega), List.getElem?_map, h3]
      rfl
    · rw [List.getElem?_append_right (by simpa using hi), List.getElem?_replicate] at h
      split at h <;> cases h
end
/-! #### the module -/
structure ModOk (L : LD) (K : PySem.W.Frag) (w : World) (mg : Str → Option Value) : Prop where
  def_ : ∀ (i : Nat) (d : DD), L.ds[i]? = some d → ∃ f fd, FunD K d.name d.name d.args d.body d.scope [] [] f fd ∧ mg d.name = some (.ref f)
  sc : ∀ (i : Nat) (d : DD), L.ds[i]? = some d → FnScope d.N d.ps d.scope
  bind : ∀ (i : Nat) (d : DD), L.ds[i]? = some d → ∀ (kV doc pm : Value) (an : Option Addr) (cdv ct : Value) (us : List Value), us.length = d.ps.length → bindArgs (PySem.W.fnOf d.name d.name d.args d.body d.scope .none kV doc pm an cdv ct) ⟨us, []⟩ = pure (d.ps.zip us)
  kbind : ∀ q ∈ L.kws, ∀ d : DD, L.ds[q.1]? = some d → (∀ (kV doc pm : Value) (an : Option Addr) (cdv ct : Value) (us ws : List Value), us.length = q.2.1 → ws.length = q.2.2.1.length → bindArgs (PySem.W.fnOf d.name d.name d.args d.body d.scope .none kV doc pm an cdv ct) ⟨us, q.2.2.1.zip ws⟩ = pure (d.ps.zip (permL (us ++ ws) q.2.2.2))) ∧
    d.ps.length = q.2.2.2.length ∧ (∀ j ∈ q.2.2.2, j < q.2.1 + q.2.2.1.length) ∧ 0 < d.ps.length
  free : ∀ x ∈ bltN, fnIx L.T x = none → mg x = none
  glb : ∀ x g v, lkS L.T.gls x = some g → L.P.gl[g]? = some v → ∃ V' u, mg x = some u ∧ L2.RelV V' u ∧ ∀ m H, Rv K m H v V'
  kds : ∀ x j l, lkS L.T.kds x = some j → L.P.kd[j]? = some l → ∃ (p : Addr) (es : Array DictEntry) (n : Nat), mg x = some (.ref p) ∧ KDict K w p es n ∧ ∀ s v, (s, v) ∈ l → ∃ u V', PySem.W.nsIn K p ⟨s.toArray⟩ = some (some u) ∧ L2.RelV V' u ∧ ∀ m H, Rv K m H v V'
section
variable {L : LD} {K : PySem.W.Frag} {w : World} {mg : Str → Option Value} {prog : Program} {base : Heap}
theorem permL_vals : ∀ {vs : List V} {us : List Value} (r : Vals vs us) (perm : List Nat), Vals (permL vs perm) (permL us perm)
  | _, _, _, [] => .nil
  | vs, us, r, j :: js => by
    unfold permL
    rw [List.filterMap_cons, List.filterMap_cons]
    cases h : vs[j]? with
    | none =>
      have : us[j]? = none := by
        rw [List.getElem?_eq_none_iff] at h ⊢
        rw [← r.length]
        exact h
      rw [this]
      exact permL_vals r js
    | some y =>
      obtain ⟨v, h1, h2⟩ := r.get h
      rw [h1]
      exact .cons h2 (permL_vals r js)
theorem kb_of {d : DD} {f : Addr} {fd : FuncData} {a : Nat} {ks : List Str} {perm : List Nat} (F : FunD K d.name d.name d.args d.body d.scope [] [] f fd)
    (h : ∀ (kV doc pm : Value) (an : Option Addr) (cdv ct : Value) (us ws : List Value), us.length = a → ws.length = ks.length → bindArgs (PySem.W.fnOf d.name d.name d.args d.body d.scope .none kV doc pm an cdv ct) ⟨us, ks.zip ws⟩ = pure (d.ps.zip (permL (us ++ ws) perm))) (h0 : 0 < d.ps.length) :
    KBinds K fd d.ps ks (gKW a ks.length perm) (gKW a ks.length perm) := by
  obtain ⟨oc, od, dV, kV, doc, pm, an, cdv, ct, osl, rfl, lk, hcd, hD, hK⟩ := F.ex
  rcases hD with ⟨_, rfl⟩ | ⟨e, _⟩
  · refine ⟨fun s us ws _ hl => ?_, fun {vs us zs ws} r1 r2 => ?_⟩
    · unfold gKW at hl ⊢
      split at hl
      · rename_i hc
        rw [if_pos hc]
        exact .of_eq (h kV doc pm an cdv ct us ws hc.1 hc.2)
      · simp at hl
        omega
    · unfold gKW
      rw [r1.length, r2.length]
      split
      · exact permL_vals (r1.append r2) perm
      · exact .nil
  · exact absurd rfl e
theorem fns_get {x : Str} {i : Nat} (h : fnIx L.T x = some i) : ∃ d, L.ds[i]? = some d ∧ d.name = x := by
  unfold fnIx at h
  obtain ⟨h1, h2, _⟩ := List.findIdx?_eq_some_iff_getElem.mp h
  have hl : i < L.ds.length := by simpa [LD.T] using h1
  refine ⟨L.ds[i], List.getElem?_eq_getElem hl, ?_⟩
  simpa [LD.T] using h2
theorem P_ds {i : Nat} {d : DD} (h : L.ds[i]? = some d) : L.P.ds[i]? = some (L.df d) := by
  show (L.ds.map L.df)[i]? = _
  rw [List.getElem?_map, h]
  rfl
theorem all_ok (M : ModOk L K w mg) : ∀ (k i : Nat) (d : DD) (f : Addr) (fd : FuncData), L.ds[i]? = some d → FunD K d.name d.name d.args d.body d.scope [] [] f fd → FnOk prog w K mg base CX0 k f fd d.ps (spF K w L.P k i d.ps.length)
  | 0, i, d, f, fd, hi, F => ⟨fun vs H Q E h => h.1, fun A outer s H args us vs Q E hr he hb hv hs => by
      obtain ⟨_, G, m, S, as, rs, r, v, S', e, q⟩ := hs
      cases e⟩
  | k + 1, i, d, f, fd, hi, F => by
    refine F.ok (M.sc i d hi) (fun vs H Q E h => h.1) fun cdv A outer s H vs Q E hr hsp => ⟨tSs K w L.P.gl L.P.kd (callF L.P k) (L.df d).body, PSs.nox ?_, ?_⟩
    · refine st_ss (P := L.P) (k := k) (c := ⟨d.N, d.scope, L.T⟩) (X := (cxOf CX0 prog w K mg base d.N d.name d.scope f cdv A outer s H E).nox) ⟨⟨rfl, (M.sc i d hi).nd, rfl, hr, fun x kd h => .inl h, fun x h => rfl, M.glb, fun x j l h1 h2 => ⟨M.kds x j l h1 h2⟩, fun x j h => ?_, M.free⟩, rfl, (M.sc i d hi).kind, PassesOwn.never⟩ EF d.body
      obtain ⟨d', h1, h2⟩ := fns_get h
      obtain ⟨f', fd', F', hm⟩ := M.def_ j d' h1
      subst h2
      refine ⟨f', fd', d'.ps, hm, F'.kp, all_ok M k j d' f' fd' h1 F', F'.bindsN (M.bind j d' h1), fun df hd => ?_, fun q hq e => ?_⟩
      · rw [P_ds h1] at hd
        cases hd
        rfl
      · subst e
        obtain ⟨b1, b2, b3, b4⟩ := M.kbind q hq d' h1
        exact ⟨kb_of F' b1 b4, b2, b3⟩
    · obtain ⟨hl, G, m, S, as, rs, r, v, S', e, q⟩ := hsp
      unfold callF at e
      rw [P_ds hi] at e
      dsimp only at e
      unfold enter at e
      split at e
      · split at e
        · split at e
          · rename_i hb
            have rs0 : RS K w (fun _ => none) H ([] : Sto) := ⟨fun l o e => (by simp at e), fun _ _ _ e => (by cases e), fun _ _ e => (by cases e)⟩
            have r0 : RvL K (fun _ => none) H as vs := RvL.down (n := 0) (fun l hl => absurd hl (Nat.not_lt_zero l)) hb r
            have fin : ∀ {m' : MP} {H' : Hp} {S2 : Sto} {v0 : EV} {V' : V}, Fr ⟨0, []⟩ (fun _ => none) H m' H' → RS K w m' H' S2 → RelE K w m' H' v0 V' → FrE H v0 V' → leave 0 v0 S S2 = .ok v S' → Q V' H' := by
              intro m' H' S2 v0 V' f' rs' r' n' e
              obtain ⟨rfl, h2, h3⟩ := leave_ok (S := []) f' rs0 rs' r' n' e
              have sm : Same H H' := fun a o h => (f'.un a o h (fun l z => by cases z)).1
              refine q m V' H' (Fr.of_same sm rs) (rs.same sm) ?_ h3
              cases v with
              | val x => exact Rv.up (fun l a z => by cases z) h2
              | tmp o =>
                obtain ⟨a, rfl, q1, _⟩ := h2
                exact ⟨a, rfl, q1.up (fun l a z => by cases z), rs.free (h3 a rfl)⟩
            split at e
            · rename_i v0 S2 he
              exact ⟨_, _, _, _, _, S2, rs0, start_ok r0, he, fun m' H' f' rs' V' r' n' => fin f' rs' r' n' e⟩
            · rename_i env2 S2 he
              exact ⟨_, _, _, _, _, S2, rs0, start_ok r0, he, fun m' H' f' rs' σ' re' => fin f' rs' (show RelE K w m' H' (.val .non) .non from Rv.non) trivial e⟩
            · cases e
            · split at e <;> cases e
            · cases e
          · cases e
        split at e
        · rename_i v0 S2 he
          refine ⟨_, m, _, S, _, S2, rs, start_ok r, he, fun m' H' f' rs' V' r' n' => ?_⟩
          obtain ⟨m2, h1, h2, h3, h4⟩ := ret_ok f' rs rs' r' n' e
          exact q m2 V' H' h1 h2 h3 h4
        · rename_i env2 S2 he
          refine ⟨_, m, _, S, _, S2, rs, start_ok r, he, fun m' H' f' rs' σ' re' => ?_⟩
          obtain ⟨m2, h1, h2, h3, h4⟩ := ret_ok (V' := .non) f' rs rs' (show RelE K w m' H' (.val .non) .non from Rv.non) trivial e
          exact q m2 .non H' h1 h2 h3 h4
        · cases e
        · split at e <;> cases e
        · cases e
      · cases e
/-- the law: what is to be shown in plain Lean -/
theorem law_sp {k i : Nat} {H : Hp} {a : Addr} {ns : List Int} (hO : Only H) (hS : SqL K H a (ns.map V.int)) (h : ∃ S', callF L.P k ⟨0, []⟩ i [.rol ns] [] = .ok (.val (.bl true)) S') :
    spF K w L.P k i 1 [.ref a] H (fun v _ => v = .bl true) fun _ _ _ => False := by
  obtain ⟨S', h⟩ := h
  have sr : SqR K H a (ns.map V.int) := by
    rcases hS with (hS | ⟨o, hS⟩) | hS
    · rcases hO a with z | ⟨o, xs, z⟩
      · rw [z] at hS; cases hS
      · rw [z] at hS; cases hS
    · exact .inl ⟨o, hS⟩
    · exact .inr hS
  refine ⟨rfl, ⟨0, []⟩, fun _ => none, [], [.rol ns], ⟨fun l o e => (by simp at e), fun _ _ _ e => (by cases e), fun _ _ e => (by cases e)⟩, .cons (.rol sr) .nil, _, S', h, fun m' V' H' _ _ r _ => ?_⟩
  cases r
  rfl
end
end Mp
end partM19

section partM20
set_option Elab.async false
set_option linter.all false
set_option maxRecDepth 100000
/-! M20: the module's facts out of one run of the top. -/
namespace Mp
open PySem PySem.Spec PyProof.Rows L2
/-- a value of the module -/
def rvB (K : PySem.W.Frag) : Nat → PV → Value → Bool
  | 0, _, _ => false
  | n + 1, x, u => match x with
    | .non => (match u with
      | .none => true
      | _ => false)
    | .bl b => (match u with
      | .bool c => b == c
      | _ => false)
    | .int i => (match u with
      | .int j _ => decide (j = i)
      | _ => false)
    | .str s => (match u with
      | .str z _ => decide (z.cps.toList = s) && strOkB s
      | _ => false)
    | .tup xs => (match u with
      | .ref a => (match K.lookup a with
        | some o => decide (o.cls = .type "tuple") && o.dict.isNone && (match o.data with
          | .seq its _ => decide (its.size ≤ sizeLine) && decide (xs.length = its.toList.length) && (xs.zip its.toList).all fun p => rvB K n p.1 p.2
          | _ => false)
        | none => false)
      | _ => false)
    | _ => false
theorem rvB_ok {K : PySem.W.Frag} : ∀ (n : Nat) (x : PV) (u : Value), rvB K n x u = true → ∃ V', L2.RelV V' u ∧ ∀ m H, Rv K m H x V'
  | 0, _, _, h => by cases h
  | n + 1, x, u, h => by
    unfold rvB at h
    split at h
    · split at h
      · exact ⟨.non, rfl, fun _ _ => .non⟩
      · cases h
    · split at h
      · have := eq_of_beq h
        subst this
        exact ⟨.bl _, rfl, fun _ _ => .bl _⟩
      · cases h
    · split at h
      · have := of_decide_eq_true h
        subst this
        exact ⟨.int _, ⟨_, rfl⟩, fun _ _ => .int _⟩
      · cases h
    · split at h
      · rename_i s z t
        rw [Bool.and_eq_true, decide_eq_true_eq] at h
        obtain ⟨rfl, h2⟩ := h
        refine ⟨.str z, ⟨_, rfl⟩, fun m H => ?_⟩
        unfold strOkB at h2
        simp only [Bool.and_eq_true, List.all_eq_true, decide_eq_true_eq] at h2
        exact Rv.str z.cps.toList h2
      · cases h
    · rename_i xs
      split at h
      · rename_i a
        split at h
        · rename_i o ho
          simp only [Bool.and_eq_true, decide_eq_true_eq, Option.isNone_iff_eq_none] at h
          obtain ⟨⟨h1, h2⟩, h3⟩ := h
          split at h3
          · rename_i its k hd
            simp only [Bool.and_eq_true, decide_eq_true_eq, List.all_eq_true] at h3
            obtain ⟨⟨h4, h5⟩, h6⟩ := h3
            have all : ∀ (xs : List PV) (us : List Value), xs.length = us.length → (∀ p ∈ xs.zip us, rvB K n p.1 p.2 = true) → ∃ vs, Vals vs us ∧ ∀ m H, RvL K m H xs vs := by
              intro xs
              induction xs with
              | nil =>
                intro us e _
                cases us with
                | nil => exact ⟨[], .nil, fun _ _ => .nil⟩
                | cons _ _ => cases e
              | cons x r ih =>
                intro us e hp
                cases us with
                | nil => cases e
                | cons u us =>
                  obtain ⟨V', q1, q2⟩ := rvB_ok n x u (hp (x, u) List.mem_cons_self)
                  obtain ⟨vs, q3, q4⟩ := ih us (by simpa using e) fun p hp' => hp p (List.mem_cons_of_mem _ hp')
                  exact ⟨V' :: vs, .cons q1 q3, fun m H => .cons (q2 m H) (q4 m H)⟩
            obtain ⟨vs, q1, q2⟩ := all xs its.toList h5 h6
            exact ⟨.ref a, rfl, fun m H => .tup (.inr ⟨o, its, k, ho, h1, h2, hd, h4, q1⟩) (q2 m H)⟩
          · cases h3
        · cases h
      · cases h
    · cases h
def gvB (K : PySem.W.Frag) (x : Str) (v : PV) : Bool := match PySem.W.nsIn K mainGlobals x with
  | some (some u) => rvB K 20 v u
  | _ => false
def kvB (K : PySem.W.Frag) (p : Addr) (s : List Nat) (v : PV) : Bool := match PySem.W.nsIn K p ⟨s.toArray⟩ with
  | some (some u) => rvB K 20 v u
  | _ => false
def LD.fn (L : LD) : List He.DefD := L.ds.map fun d => ⟨(d.name, none), d.name, d.name, d.args, d.body, d.scope, [], []⟩
def LD.fa (L : LD) : List He.Fa := L.ds.map (fun d => .glo d.name) ++ ((bltN.filter fun x => (fnIx L.T x).isNone).map .free ++ L.kds.map fun q => .glo q.1)
def LD.ts (L : LD) : List He.Tab := L.kds.map fun q => (fun K => He.ga K q.1, q.2.map fun kv => (⟨kv.1.toArray⟩ : Str))
def LD.ex (L : LD) (K : PySem.W.Frag) : Bool := (L.gls.all fun q => gvB K q.1 q.2) && L.kds.all fun q => q.2.all fun kv => kvB K (He.ga K q.1) kv.1 kv.2
/-- what is looked at of the text alone -/
structure TxtOk (L : LD) : Prop where
  sc : L.ds.all (fun d => C8.scC d.N d.ps d.scope) = true
  bind : ∀ (i : Nat) (d : DD), L.ds[i]? = some d → ∀ (kV doc pm : Value) (an : Option Addr) (cdv ct : Value) (us : List Value), us.length = d.ps.length → bindArgs (PySem.W.fnOf d.name d.name d.args d.body d.scope .none kV doc pm an cdv ct) ⟨us, []⟩ = pure (d.ps.zip us)
  kbind : ∀ q ∈ L.kws, ∀ d : DD, L.ds[q.1]? = some d → (∀ (kV doc pm : Value) (an : Option Addr) (cdv ct : Value) (us ws : List Value), us.length = q.2.1 → ws.length = q.2.2.1.length → bindArgs (PySem.W.fnOf d.name d.name d.args d.body d.scope .none kV doc pm an cdv ct) ⟨us, q.2.2.1.zip ws⟩ = pure (d.ps.zip (permL (us ++ ws) q.2.2.2))) ∧
    d.ps.length = q.2.2.2.length ∧ (∀ j ∈ q.2.2.2, j < q.2.1 + q.2.2.1.length) ∧ 0 < d.ps.length
def BindD (d : DD) : Prop := ∀ (kV doc pm : Value) (an : Option Addr) (cdv ct : Value) (us : List Value), us.length = d.ps.length → bindArgs (PySem.W.fnOf d.name d.name d.args d.body d.scope .none kV doc pm an cdv ct) ⟨us, []⟩ = pure (d.ps.zip us)
def BindAll : List DD → Prop
  | [] => True
  | d :: r => BindD d ∧ BindAll r
theorem bind_all : ∀ {ds : List DD}, BindAll ds → ∀ (i : Nat) (d : DD), ds[i]? = some d → BindD d
  | [], _, _, _, e => by simp at e
  | x :: r, h, 0, d, e => by simp at e; subst e; exact h.1
  | x :: r, h, i + 1, d, e => bind_all h.2 i d (by simpa using e)
def KBindD (q : Nat × Nat × List Str × List Nat) (d : DD) : Prop := (∀ (kV doc pm : Value) (an : Option Addr) (cdv ct : Value) (us ws : List Value), us.length = q.2.1 → ws.length = q.2.2.1.length → bindArgs (PySem.W.fnOf d.name d.name d.args d.body d.scope .none kV doc pm an cdv ct) ⟨us, q.2.2.1.zip ws⟩ = pure (d.ps.zip (permL (us ++ ws) q.2.2.2))) ∧
    d.ps.length = q.2.2.2.length ∧ (∀ j ∈ q.2.2.2, j < q.2.1 + q.2.2.1.length) ∧ 0 < d.ps.length
def KBindAll (ds : List DD) : KW → Prop
  | [] => True
  | q :: r => (match ds[q.1]? with
    | some d => KBindD q d
    | none => True) ∧ KBindAll ds r
theorem kbind_all {ds : List DD} : ∀ {kws : KW}, KBindAll ds kws → ∀ q ∈ kws, ∀ d : DD, ds[q.1]? = some d → KBindD q d
  | [], _, _, hq, _, _ => by cases hq
  | x :: r, h, q, hq, d, e => by
    rcases List.mem_cons.mp hq with rfl | hq
    · have := h.1
      rw [e] at this
      exact this
    · exact kbind_all h.2 q hq d e
section
variable {L : LD} {K : PySem.W.Frag} {w : World} {mg : Str → Option Value} {h : Heap}
theorem modOk_of (t : TxtOk L) (c : He.SaysX L.fa L.fn L.ts [] L.ex w h K) (X : K.In h) (G : h.Ns mainGlobals mg) : ModOk L K w mg := by
  have cd := c.t.d
  have hex := c.more
  unfold LD.ex at hex
  rw [Bool.and_eq_true, List.all_eq_true, List.all_eq_true] at hex
  refine ⟨fun i d hd => ?_, fun i d hd => ?_, t.bind, t.kbind, fun x hx hn => ?_, fun x g v h1 h2 => ?_, fun x j l h1 h2 => ?_⟩
  · obtain ⟨fd, F⟩ := cd.def_ i (d := ⟨(d.name, none), d.name, d.name, d.args, d.body, d.scope, [], []⟩) (by
      show (L.ds.map _)[i]? = _
      rw [List.getElem?_map, hd]
      rfl)
    exact ⟨_, fd, F, He.glo_ok X G (He.SaysD.facts cd (f := .glo d.name) (List.mem_append_left _ (List.mem_map.mpr ⟨d, List.mem_of_getElem? hd, rfl⟩)))⟩
  · exact C8.fnScope_by (List.all_eq_true.mp t.sc d (List.mem_of_getElem? hd))
  · exact He.free_ok X G (He.SaysD.facts cd (f := .free x) (List.mem_append_right _ (List.mem_append_left _ (List.mem_map.mpr ⟨x, List.mem_filter.mpr ⟨hx, by rw [hn]; rfl⟩, rfl⟩))))
  · have e1 : (L.gls.map (·.1))[g]? = some x := lkS_get h1
    have e2 : (L.gls.map (·.2))[g]? = some v := h2
    rw [List.getElem?_map, Option.map_eq_some_iff] at e1 e2
    obtain ⟨q, hq, rfl⟩ := e1
    obtain ⟨q', hq', rfl⟩ := e2
    rw [hq] at hq'
    cases hq'
    have := hex.1 q (List.mem_of_getElem? hq)
    unfold gvB at this
    split at this
    · rename_i u hu
      obtain ⟨V', r1, r2⟩ := rvB_ok 20 _ _ this
      exact ⟨V', u, PySem.W.mg_of X G hu, r1, r2⟩
    · cases this
  · have e1 : (L.kds.map (·.1))[j]? = some x := lkS_get h1
    have e2 : (L.kds.map (·.2))[j]? = some l := h2
    rw [List.getElem?_map, Option.map_eq_some_iff] at e1 e2
    obtain ⟨q, hq, rfl⟩ := e1
    obtain ⟨q', hq', rfl⟩ := e2
    rw [hq] at hq'
    cases hq'
    have hm := List.mem_of_getElem? hq
    obtain ⟨es, n, D⟩ := c.t.tab j (t := (fun K => He.ga K q.1, q.2.map fun kv => (⟨kv.1.toArray⟩ : Str))) (by
      show (L.kds.map _)[j]? = _
      rw [List.getElem?_map, hq]
      rfl)
    refine ⟨_, es, n, He.glo_ok X G (He.SaysD.facts cd (f := .glo q.1) (List.mem_append_right _ (List.mem_append_right _ (List.mem_map.mpr ⟨q, hm, rfl⟩)))), D, fun s v hs => ?_⟩
    have := List.all_eq_true.mp (hex.2 q hm) (s, v) hs
    unfold kvB at this
    split at this
    · rename_i u hu
      obtain ⟨V', r1, r2⟩ := rvB_ok 20 _ _ this
      exact ⟨u, V', hu, r1, r2⟩
    · cases this
end
/-- the law's end: k levels, i the law's own place -/
theorem law_walk {l : PySem.W.OpenLaw} {k i : Nat} {q : Program} {loose : List Str} {XP : (Str → Option Value) → Heap → Prop} {L : LD} {d : DefRec} {dd : DD} {x : Str} (t : TxtOk L) (hn : l.most = some 63) (hdf : d.params.defaults = []) (hr : Room k callerA)
    (hd : L.ds[i]? = some dd) (hname : d.name = dd.name) (hps : dd.ps = [x]) (h : ∀ ns : List Int, ns.length ≤ 63 → ∃ S', callF L.P k ⟨0, []⟩ i [.rol ns] [] = .ok (.val (.bl true)) S') :
    PySem.W.WalkO q loose XP (He.hookX 5 L.fa L.fn L.ts [] L.ex).says l.row.toRowW d [] (fun f vs => PySem.call f vs) := by
  refine L2.walk_ofE (l := l) (n := 63) (k := k) (x := x) (CX := L2.CX0) hn (by decide) hdf hr ?_ (fun _ _ _ _ z => z)
  rintro w mg fa hp ⟨K, KX, c⟩ G hmg
  have M := modOk_of t c KX G
  obtain ⟨f, fd, F, hm⟩ := M.def_ i dd hd
  rw [hname, hm] at hmg
  cases hmg
  refine ⟨K, fd, spF K w L.P k i 1, KX, fun s u => ?_, fun H a ns hl hO hS => law_sp hO hS (h ns hl), fun base _ _ => ?_⟩
  · have b := F.bindsA (M.bind i dd hd) s [u] (by rw [hps]; rfl)
    rw [hps] at b
    exact b
  · have := all_ok (prog := l.prog) (base := base) M k i dd _ fd hd F
    rw [hps] at this
    exact this
end Mp
end partM20

section partK06d
set_option Elab.async false
set_option linter.all false
set_option maxRecDepth 100000
set_option maxHeartbeats 0
namespace K06
open PySem PySem.Spec PyProof.Rows L2 Mp
def top (i : Nat) : Stmt := PySem.Challenge.pw_villageboard_k06_next_dead_short.main.body.getD i (.Pass ⟨0, 0, 0, 0⟩)
def d0 : DD := ⟨"command_part", ["command", "sort"], ["command", "sort", "parts", "other", "part"], 0, defArgs (top 2), defBody (top 2), defScope (top 2)⟩
def d1 : DD := ⟨"command_with", ["command", "to"], ["command", "to"], 0, defArgs (top 3), defBody (top 3), defScope (top 3)⟩
def d2 : DD := ⟨"next_commands", ["code", "at"], ["code", "at", "command", "told", "to"], 0, defArgs (top 5), defBody (top 5), defScope (top 5)⟩
def d3 : DD := ⟨"reached_commands", ["code"], ["code", "told", "queue", "to"], 0, defArgs (top 6), defBody (top 6), defScope (top 6)⟩
def d4 : DD := ⟨"dead_commands", ["code"], ["code", "reached", "at"], 0, defArgs (top 7), defBody (top 7), defScope (top 7)⟩
def d5 : DD := ⟨"without_command", ["commands", "at", "meant"], ["commands", "at", "meant", "told", "here", "command", "to"], 0, defArgs (top 8), defBody (top 8), defScope (top 8)⟩
def d6 : DD := ⟨"idle_go", ["commands"], ["commands", "found", "at", "command"], 0, defArgs (top 9), defBody (top 9), defScope (top 9)⟩
def d7 : DD := ⟨"short_code", ["code"], ["code", "reached", "commands", "at", "command", "to"], 0, defArgs (top 10), defBody (top 10), defScope (top 10)⟩
def d8 : DD := ⟨"is_whole", ["thing"], ["thing"], 0, defArgs (top 18), defBody (top 18), defScope (top 18)⟩
def d9 : DD := ⟨"whole_within", ["thing", "least", "most"], ["thing", "least", "most"], 0, defArgs (top 19), defBody (top 19), defScope (top 19)⟩
def d10 : DD := ⟨"is_tuple_of", ["thing", "many"], ["thing", "many"], 0, defArgs (top 20), defBody (top 20), defScope (top 20)⟩
def d11 : DD := ⟨"is_name", ["thing"], ["thing", "sign"], 0, defArgs (top 21), defBody (top 21), defScope (top 21)⟩
def d12 : DD := ⟨"has_code_shape", ["thing"], ["thing", "firsts", "known", "command", "word", "most"], 0, defArgs (top 23), defBody (top 23), defScope (top 23)⟩
def d13 : DD := ⟨"note_word", ["counts", "mosts", "command"], ["counts", "mosts", "command", "note"], 0, defArgs (top 24), defBody (top 24), defScope (top 24)⟩
def d14 : DD := ⟨"command_word", ["counts", "code", "command"], ["counts", "code", "command", "sorts", "word"], 0, defArgs (top 25), defBody (top 25), defScope (top 25)⟩
def d15 : DD := ⟨"check_code", ["counts", "thing"], ["counts", "thing", "at", "command", "word"], 0, defArgs (top 26), defBody (top 26), defScope (top 26)⟩
def d16 : DD := ⟨"_law_yarn", ["script"], ["script", "twist", "hanks", "at", "cell"], 2, defArgs (top 28), defBody (top 28), defScope (top 28)⟩
def d17 : DD := ⟨"_law_knot", ["yarn", "place", "many"], ["yarn", "place", "many", "wont", "size"], 2, defArgs (top 29), defBody (top 29), defScope (top 29)⟩
def d18 : DD := ⟨"_law_to", ["yarn", "at", "many"], ["yarn", "at", "many", "way"], 2, defArgs (top 30), defBody (top 30), defScope (top 30)⟩
def d19 : DD := ⟨"_law_code", ["yarn", "many"], ["yarn", "many", "told", "at", "last", "to", "way"], 2, defArgs (top 31), defBody (top 31), defScope (top 31)⟩
def d20 : DD := ⟨"_law_next", ["commands", "at"], ["commands", "at", "command"], 0, defArgs (top 32), defBody (top 32), defScope (top 32)⟩
def d21 : DD := ⟨"_law_reached", ["commands"], ["commands", "told", "lap", "to"], 0, defArgs (top 33), defBody (top 33), defScope (top 33)⟩
def d22 : DD := ⟨"_law_led", ["command", "numbers"], ["command", "numbers"], 2, defArgs (top 34), defBody (top 34), defScope (top 34)⟩
def d23 : DD := ⟨"_law_short", ["code"], ["code", "kept", "numbers", "commands", "lap", "idle", "at", "one"], 0, defArgs (top 35), defBody (top 35), defScope (top 35)⟩
def d24 : DD := ⟨"_law_same", ["told", "due"], ["told", "due", "at"], 0, defArgs (top 36), defBody (top 36), defScope (top 36)⟩
def d25 : DD := ⟨"_law_asked", ["yarn", "code", "all_of"], ["yarn", "code", "all_of", "commands", "at", "reached", "short", "dead", "told"], 2, defArgs (top 37), defBody (top 37), defScope (top 37)⟩
def d26 : DD := ⟨"_law_sheet", ["yarn"], ["yarn", "commands", "lap", "at", "long", "other", "start"], 2, defArgs (top 38), defBody (top 38), defScope (top 38)⟩
def d27 : DD := ⟨"_law_hand", [], ["rows", "commands", "dead", "short", "wide", "told", "code", "at"], 0, defArgs (top 39), defBody (top 39), defScope (top 39)⟩
def d28 : DD := ⟨"law", ["script"], ["script", "yarn", "lap", "commands", "at"], 2, defArgs (top 40), defBody (top 40), defScope (top 40)⟩
def L : LD := ⟨[d0, d1, d2, d3, d4, d5, d6, d7, d8, d9, d10, d11, d12, d13, d14, d15, d16, d17, d18, d19, d20, d21, d22, d23, d24, d25, d26, d27, d28],
  [("RESERVED", (.tup [(.str [112, 108, 97, 99, 101]), (.str [110, 111, 116, 101]), (.str [109, 97, 107, 101]), (.str [115, 105, 110, 103, 108, 101]), (.str [99, 114, 111, 119, 100]), (.str [112, 117, 116]), (.str [119, 97, 105, 116]), (.str [105, 102]), (.str [101, 108, 115, 101]), (.str [101, 105, 116, 104, 101, 114]), (.str [111, 114]), (.str [108, 111, 111, 112]), (.str [108, 101, 97, 118, 101]), (.str [97, 103, 97, 105, 110]), (.str [115, 101, 116]), (.str [109, 111, 114, 101]), (.str [97, 115, 107]), (.str [108, 111, 111, 107]), (.str [116, 101, 108, 108]), (.str [109, 97, 114, 107]), (.str [100, 111]), (.str [115, 116, 111, 112]), (.str [101, 110, 100]), (.str [99, 108, 97, 105, 109])])), ("LETTERS", (.str [97, 98, 99, 100, 101, 102, 103, 104, 105, 106, 107, 108, 109, 110, 111, 112, 113, 114, 115, 116, 117, 118, 119, 120, 121, 122])), ("FIGURES", (.str [48, 49, 50, 51, 52, 53, 54, 55, 56, 57]))],
  [("COMMANDS", [([112, 117, 116], (.tup [(.str [112, 108, 97, 99, 101]), (.str [110, 111, 116, 105, 99, 101])])), ([119, 97, 105, 116], (.tup [(.str [112, 108, 97, 99, 101]), (.str [110, 111, 116, 105, 99, 101])])), ([105, 102], (.tup [(.str [112, 108, 97, 99, 101]), (.str [110, 111, 116, 105, 99, 101]), (.str [116, 111])])), ([101, 105, 116, 104, 101, 114], (.tup [(.str [116, 111])])), ([103, 111], (.tup [(.str [116, 111])])), ([115, 101, 116], (.tup [(.str [110, 111, 116, 101]), (.str [110, 117, 109, 98, 101, 114])])), ([109, 111, 114, 101], (.tup [(.str [110, 111, 116, 101])])), ([97, 115, 107], (.tup [(.str [110, 111, 116, 101]), (.str [110, 117, 109, 98, 101, 114]), (.str [116, 111])])), ([108, 111, 111, 107], (.tup [(.str [110, 111, 116, 101]), (.str [112, 108, 97, 99, 101])])), ([116, 101, 108, 108], (.tup [(.str [112, 108, 97, 99, 101]), (.str [110, 111, 116, 101])])), ([109, 97, 114, 107], (.tup [(.str [109, 97, 114, 107])])), ([115, 116, 111, 112], (.tup []))])],
  [(7, 0, ["code"], [0]), (2, 0, ["at", "code"], [1, 0])]⟩
abbrev R : PySem.W.OpenRow := PySem.W.OpenLaw.row PySem.Challenge.rw_villageboard_k06_next_dead_short
def loose0 : List PySem.Str := ["COMMANDS", "command_part", "command_with", "next_commands", "reached_commands", "dead_commands", "without_command", "idle_go", "short_code", "VillageError", "BadCode", "RESERVED", "LETTERS", "FIGURES", "is_whole", "whole_within", "is_tuple_of", "is_name", "has_code_shape", "note_word", "command_word", "check_code", "_law_yarn", "_law_knot", "_law_to", "_law_code", "_law_next", "_law_reached", "_law_led", "_law_short"]
def loose1 : List PySem.Str := ["_law_same", "_law_asked", "_law_sheet", "_law_hand"]
def loose : List PySem.Str := loose0 ++ loose1
def lawIx : Nat := 40
def lawJ : Nat := 28
theorem txt : TxtOk L := by
  refine ⟨by decide +kernel, bind_all ?_, kbind_all ?_⟩
  · refine ⟨?_, ?_, ?_, ?_, ?_, ?_, ?_, ?_, ?_, ?_, ?_, ?_, ?_, ?_, ?_, ?_, ?_, ?_, ?_, ?_, ?_, ?_, ?_, ?_, ?_, ?_, ?_, ?_, ?_, trivial⟩
    · exact fun _ _ _ _ _ _ us hl => match us, hl with | [_, _], _ => rfl
    · exact fun _ _ _ _ _ _ us hl => match us, hl with | [_, _], _ => rfl
    · exact fun _ _ _ _ _ _ us hl => match us, hl with | [_, _], _ => rfl
    · exact fun _ _ _ _ _ _ us hl => match us, hl with | [_], _ => rfl
    · exact fun _ _ _ _ _ _ us hl => match us, hl with | [_], _ => rfl
    · exact fun _ _ _ _ _ _ us hl => match us, hl with | [_, _, _], _ => rfl
    · exact fun _ _ _ _ _ _ us hl => match us, hl with | [_], _ => rfl
    · exact fun _ _ _ _ _ _ us hl => match us, hl with | [_], _ => rfl
    · exact fun _ _ _ _ _ _ us hl => match us, hl with | [_], _ => rfl
    · exact fun _ _ _ _ _ _ us hl => match us, hl with | [_, _, _], _ => rfl
    · exact fun _ _ _ _ _ _ us hl => match us, hl with | [_, _], _ => rfl
    · exact fun _ _ _ _ _ _ us hl => match us, hl with | [_], _ => rfl
    · exact fun _ _ _ _ _ _ us hl => match us, hl with | [_], _ => rfl
    · exact fun _ _ _ _ _ _ us hl => match us, hl with | [_, _, _], _ => rfl
    · exact fun _ _ _ _ _ _ us hl => match us, hl with | [_, _, _], _ => rfl
    · exact fun _ _ _ _ _ _ us hl => match us, hl with | [_, _], _ => rfl
    · exact fun _ _ _ _ _ _ us hl => match us, hl with | [_], _ => rfl
    · exact fun _ _ _ _ _ _ us hl => match us, hl with | [_, _, _], _ => rfl
    · exact fun _ _ _ _ _ _ us hl => match us, hl with | [_, _, _], _ => rfl
    · exact fun _ _ _ _ _ _ us hl => match us, hl with | [_, _], _ => rfl
    · exact fun _ _ _ _ _ _ us hl => match us, hl with | [_, _], _ => rfl
    · exact fun _ _ _ _ _ _ us hl => match us, hl with | [_], _ => rfl
    · exact fun _ _ _ _ _ _ us hl => match us, hl with | [_, _], _ => rfl
    · exact fun _ _ _ _ _ _ us hl => match us, hl with | [_], _ => rfl
    · exact fun _ _ _ _ _ _ us hl => match us, hl with | [_, _], _ => rfl
    · exact fun _ _ _ _ _ _ us hl => match us, hl with | [_, _, _], _ => rfl
    · exact fun _ _ _ _ _ _ us hl => match us, hl with | [_], _ => rfl
    · exact fun _ _ _ _ _ _ us hl => match us, hl with | [], _ => rfl
    · exact fun _ _ _ _ _ _ us hl => match us, hl with | [_], _ => rfl
  · refine ⟨?_, ?_, trivial⟩
    · exact ⟨fun _ _ _ _ _ _ us ws h1 h2 => match us, ws, h1, h2 with | [], [_], _, _ => rfl, rfl, by decide, by decide⟩
    · exact ⟨fun _ _ _ _ _ _ us ws h1 h2 => match us, ws, h1, h2 with | [], [_, _], _, _ => rfl, rfl, by decide, by decide⟩
end K06
end partK06d

section partK06h
set_option Elab.async false
set_option linter.all false
set_option maxRecDepth 100000
set_option maxHeartbeats 0
namespace K06
open PySem PySem.Spec PyProof.Rows L2 Mp
abbrev hk : PySem.W.Hook := He.hookX 5 L.fa L.fn L.ts [] L.ex
def ob (s : PySem.W.SharedT) : He.AlX := He.obsX 5 L.fa L.fn L.ts [] L.ex (HandSHeadRun.getT s)
theorem ob_eq (s : PySem.W.SharedT) : ob s = hk.obs s.abs := He.obsX_eq (HandSHeadRun.getT_eq s)
theorem run (w : World) : HandSHeadRun.RunEq R (PySem.W.view R.prog [lawIx]) hk ob 20000 loose w :=
  PySem.W.byRow2 "special-get-raises" (P := fun w => HandSHeadRun.RunEq R (PySem.W.view R.prog [lawIx]) hk ob 20000 loose w)
    (fun w => by intro os; kernel_rfl) (fun w => by intro os; kernel_rfl) w
end K06
end partK06h

section partK06p
set_option linter.all false
set_option maxRecDepth 100000
/-! K06p: the compiled text. -/
namespace K06
open Mp
/-- command_part -/
def b0 : List CS :=
  [CS.asg (Tg.var 2)
    ((CE.var 4).lc (Tg.tup [Tg.var 3, Tg.var 4])
      (CI.zip (CE.kget 0 ((CE.var 0).idx (CE.cst (PV.int (0)))))
        ((CE.var 0).slc (some (CE.cst (PV.int (1)))) none))
      [CE.cmp Cop.eq (CE.var 3) (CE.var 1)] [3, 4]),
  CS.ret ((CE.var 2).ite ((CE.var 2).idx (CE.cst (PV.int (0)))) (CE.cst PV.non))]
/-- command_with -/
def b1 : List CS :=
  [CS.ret (CE.bin Bop.add ((CE.var 0).slc none (some (CE.cst (PV.int (1))).neg)) (CE.tup [CE.var 1]))]
/-- next_commands -/
def b2 : List CS :=
  [CS.asg (Tg.var 2) (((CE.var 0).idx (CE.cst (PV.int (1)))).idx (CE.var 1)), CS.asg (Tg.var 3) (CE.lst []),
  CS.ife
    (CE.cmp Cop.nin ((CE.var 2).idx (CE.cst (PV.int (0))))
      (CE.tup [CE.cst (PV.str [103, 111]), CE.cst (PV.str [115, 116, 111, 112])]))
    [CS.exp (CE.mth Mth.append (CE.var 3) [CE.bin Bop.add (CE.var 1) (CE.cst (PV.int (1)))])] [],
  CS.asg (Tg.var 4) (CE.call 0 [CE.var 2, CE.cst (PV.str [116, 111])]),
  CS.ife ((CE.cmp Cop.isn (CE.var 4) (CE.cst PV.non)).and (CE.cmp Cop.nin (CE.var 4) (CE.var 3)))
    [CS.exp (CE.mth Mth.append (CE.var 3) [CE.var 4])] [],
  CS.ret (CE.blt Blt.tuple [CE.blt Blt.sorted [CE.var 3]])]
/-- reached_commands -/
def b3 : List CS :=
  [CS.asg (Tg.var 1) (CE.dct [CE.cst (PV.int (0)), CE.cst (PV.bl true)]),
  CS.asg (Tg.var 2) (CE.lst [CE.cst (PV.int (0))]),
  CS.whl (CE.var 2)
    [CS.frr (Tg.var 3) (CI.exp (CE.call 2 [CE.var 0, CE.mth Mth.pop (CE.var 2) []]))
        [CS.ife (CE.cmp Cop.nin (CE.var 3) (CE.var 1))
            [CS.asgS (CE.var 1) (CE.var 3) (CE.cst (PV.bl true)), CS.exp (CE.mth Mth.append (CE.var 2) [CE.var 3])]
            []]],
  CS.ret (CE.blt Blt.tuple [CE.blt Blt.sorted [CE.var 1]])]
/-- dead_commands -/
def b4 : List CS :=
  [CS.asg (Tg.var 1) (CE.call 3 [CE.var 0]),
  CS.ret
    (CE.blt Blt.tuple
      [(CE.var 2).lc (Tg.var 2) (CI.rng1 (CE.blt Blt.len [(CE.var 0).idx (CE.cst (PV.int (1)))]))
          [CE.cmp Cop.nin (CE.var 2) (CE.var 1)] [2]])]
/-- without_command -/
def b5 : List CS :=
  [CS.asg (Tg.var 3) (CE.lst []),
  CS.frr (Tg.tup [Tg.var 4, Tg.var 5]) (CI.enum (CE.var 0))
    [CS.ife (CE.cmp Cop.eq (CE.var 4) (CE.var 1)) [CS.cont] [],
      CS.asg (Tg.var 6) (CE.call 0 [CE.var 5, CE.cst (PV.str [116, 111])]),
      CS.ife (CE.cmp Cop.isn (CE.var 6) (CE.cst PV.non))
        [CS.asg (Tg.var 6) ((CE.cmp Cop.eq (CE.var 6) (CE.var 1)).ite (CE.var 2) (CE.var 6)),
          CS.asg (Tg.var 5)
            (CE.call 1 [CE.var 5, CE.bin Bop.sub (CE.var 6) (CE.blt Blt.int [CE.cmp Cop.gt (CE.var 6) (CE.var 1)])])]
        [],
      CS.exp (CE.mth Mth.append (CE.var 3) [CE.var 5])],
  CS.ret (CE.blt Blt.tuple [CE.var 3])]
/-- idle_go -/
def b6 : List CS :=
  [CS.asg (Tg.var 1)
    ((CE.var 2).lc (Tg.tup [Tg.var 2, Tg.var 3]) (CI.enum (CE.var 0))
      [CE.cmp Cop.eq (CE.var 3)
          (CE.tup [CE.cst (PV.str [103, 111]), CE.bin Bop.add (CE.var 2) (CE.cst (PV.int (1)))])]
      [2, 3]),
  CS.ret ((CE.var 1).ite ((CE.var 1).idx (CE.cst (PV.int (0)))) (CE.cst PV.non))]
/-- short_code -/
def b7 : List CS :=
  [CS.asg (Tg.var 1) (CE.call 3 [CE.var 0]), CS.asg (Tg.var 2) (CE.lst []),
  CS.frr (Tg.var 3) (CI.exp (CE.var 1))
    [CS.asg (Tg.var 4) (((CE.var 0).idx (CE.cst (PV.int (1)))).idx (CE.var 3)),
      CS.asg (Tg.var 5) (CE.call 0 [CE.var 4, CE.cst (PV.str [116, 111])]),
      CS.exp
        (CE.mth Mth.append (CE.var 2)
          [(CE.cmp Cop.is (CE.var 5) (CE.cst PV.non)).ite (CE.var 4)
              (CE.call 1 [CE.var 4, CE.mth Mth.index (CE.var 1) [CE.var 5]])])],
  CS.asg (Tg.var 2) (CE.blt Blt.tuple [CE.var 2]), CS.asg (Tg.var 3) (CE.call 6 [CE.var 2]),
  CS.whl (CE.cmp Cop.isn (CE.var 3) (CE.cst PV.non))
    [CS.asg (Tg.var 2) (CE.call 5 [CE.var 2, CE.var 3, CE.bin Bop.add (CE.var 3) (CE.cst (PV.int (1)))]),
      CS.asg (Tg.var 3) (CE.call 6 [CE.var 2])],
  CS.ret (CE.tup [(CE.var 0).idx (CE.cst (PV.int (0))), CE.var 2])]
/-- is_whole -/
def b8 : List CS :=
  [CS.ret (((CE.var 0).isi Ty.int).and ((CE.var 0).isi Ty.bool).not)]
/-- whole_within -/
def b9 : List CS :=
  [CS.ret ((CE.call 8 [CE.var 0]).and (CE.cmp2 Cop.le Cop.le (CE.var 1) (CE.var 0) (CE.var 2)))]
/-- is_tuple_of -/
def b10 : List CS :=
  [CS.ret (((CE.var 0).isi Ty.tuple).and (CE.cmp Cop.eq (CE.blt Blt.len [CE.var 0]) (CE.var 1)))]
/-- is_name -/
def b11 : List CS :=
  [CS.ife
    (((CE.var 0).isi Ty.str).not.or
      ((CE.cmp2 Cop.le Cop.le (CE.cst (PV.int (1))) (CE.blt Blt.len [CE.var 0])
              (CE.cst (PV.int (6)))).not.or
        (CE.cmp Cop.in (CE.var 0) (CE.glb 0))))
    [CS.ret (CE.cst (PV.bl false))] [],
  CS.ret
    ((CE.cmp Cop.in ((CE.var 0).idx (CE.cst (PV.int (0)))) (CE.glb 1)).and
      ((CE.var 1).lc (Tg.var 1) (CI.exp (CE.var 0))
          [(CE.cmp Cop.nin (CE.var 1) (CE.glb 1)).and (CE.cmp Cop.nin (CE.var 1) (CE.glb 2))] [1]).not)]
/-- has_code_shape -/
def b12 : List CS :=
  [CS.ife
    ((CE.call 10 [CE.var 0, CE.cst (PV.int (2))]).not.or
      ((((CE.var 0).idx (CE.cst (PV.int (0)))).isi Ty.tuple).not.or
        ((((CE.var 0).idx (CE.cst (PV.int (1)))).isi Ty.tuple).not.or
          ((CE.var 0).idx (CE.cst (PV.int (1)))).not)))
    [CS.ret (CE.cst (PV.bl false))] [],
  CS.ife
    ((CE.cmp Cop.gt (CE.blt Blt.len [(CE.var 0).idx (CE.cst (PV.int (0)))])
          (CE.cst (PV.int (3)))).or
      ((CE.var 5).lc (Tg.var 5) (CI.exp ((CE.var 0).idx (CE.cst (PV.int (0)))))
        [(CE.call 9 [CE.var 5, CE.cst (PV.int (1)), CE.cst (PV.int (5))]).not] [5]))
    [CS.ret (CE.cst (PV.bl false))] [],
  CS.asg (Tg.var 1)
    (((CE.var 3).idx (CE.cst (PV.int (0)))).lc (Tg.var 3)
      (CI.exp ((CE.var 0).idx (CE.cst (PV.int (1))))) [((CE.var 3).isi Ty.tuple).and (CE.var 3)] [3]),
  CS.asg (Tg.var 2)
    ((CE.var 4).lc (Tg.var 4) (CI.exp (CE.var 1)) [((CE.var 4).isi Ty.str).and (CE.kin false 0 (CE.var 4))] [4]),
  CS.ret (CE.cmp Cop.eq (CE.blt Blt.len [CE.var 2]) (CE.blt Blt.len [(CE.var 0).idx (CE.cst (PV.int (1)))]))]
/-- note_word -/
def b13 : List CS :=
  [CS.asg (Tg.var 3) (CE.call 0 [CE.var 2, CE.cst (PV.str [110, 111, 116, 101])]),
  CS.ife (CE.cmp Cop.is (CE.var 3) (CE.cst PV.non)) [CS.ret (CE.cst PV.non)] [],
  CS.ife
    (CE.call 9
        [CE.var 3, CE.cst (PV.int (0)),
          CE.bin Bop.sub (CE.blt Blt.len [CE.var 1]) (CE.cst (PV.int (1)))]).not
    [CS.ret (CE.cst (PV.str [110, 111, 116, 101]))] [],
  CS.ife
    (CE.cmp Cop.in ((CE.var 2).idx (CE.cst (PV.int (0))))
      (CE.tup [CE.cst (PV.str [115, 101, 116]), CE.cst (PV.str [97, 115, 107])]))
    [CS.ret
        ((CE.call 9
              [(CE.var 2).idx (CE.cst (PV.int (2))), CE.cst (PV.int (0)),
                (CE.var 1).idx (CE.var 3)]).ite
          (CE.cst PV.non) (CE.cst (PV.str [110, 117, 109, 98, 101, 114])))]
    [],
  CS.ife (CE.cmp Cop.eq ((CE.var 2).idx (CE.cst (PV.int (0)))) (CE.cst (PV.str [108, 111, 111, 107])))
    [CS.ret
        ((CE.cmp Cop.gt ((CE.var 0).idx ((CE.var 2).idx (CE.cst (PV.int (2)))))
              (CE.bin Bop.add ((CE.var 1).idx (CE.var 3)) (CE.cst (PV.int (1))))).ite
          (CE.cst (PV.str [110, 117, 109, 98, 101, 114])) (CE.cst PV.non))]
    [],
  CS.ife (CE.cmp Cop.eq ((CE.var 2).idx (CE.cst (PV.int (0)))) (CE.cst (PV.str [116, 101, 108, 108])))
    [CS.ret
        ((CE.cmp Cop.gt (CE.bin Bop.add ((CE.var 1).idx (CE.var 3)) (CE.cst (PV.int (1))))
              ((CE.var 0).idx ((CE.var 2).idx (CE.cst (PV.int (1)))))).ite
          (CE.cst (PV.str [110, 117, 109, 98, 101, 114])) (CE.cst PV.non))]
    [],
  CS.ret (CE.cst PV.non)]
/-- command_word -/
def b14 : List CS :=
  [CS.asg (Tg.var 3) (CE.kget 0 ((CE.var 2).idx (CE.cst (PV.int (0))))),
  CS.ife
    (CE.cmp Cop.ne (CE.blt Blt.len [CE.var 2])
      (CE.bin Bop.add (CE.blt Blt.len [CE.var 3]) (CE.cst (PV.int (1)))))
    [CS.ret (CE.cst (PV.str [119, 111, 114, 100, 115]))] [],
  CS.ife
    ((CE.cmp Cop.in (CE.cst (PV.str [112, 108, 97, 99, 101])) (CE.var 3)).and
      (CE.call 9
          [CE.call 0 [CE.var 2, CE.cst (PV.str [112, 108, 97, 99, 101])], CE.cst (PV.int (0)),
            CE.bin Bop.sub (CE.blt Blt.len [CE.var 0]) (CE.cst (PV.int (1)))]).not)
    [CS.ret (CE.cst (PV.str [112, 108, 97, 99, 101]))] [],
  CS.ife
    ((CE.cmp Cop.in (CE.cst (PV.str [110, 111, 116, 105, 99, 101])) (CE.var 3)).and
      (CE.call 9
          [(CE.var 2).idx (CE.cst (PV.int (2))), CE.cst (PV.int (0)),
            CE.bin Bop.sub ((CE.var 0).idx ((CE.var 2).idx (CE.cst (PV.int (1)))))
              (CE.cst (PV.int (1)))]).not)
    [CS.ret (CE.cst (PV.str [110, 111, 116, 105, 99, 101]))] [],
  CS.ife (CE.cmp Cop.in (CE.cst (PV.str [110, 111, 116, 101])) (CE.var 3))
    [CS.ife (CE.cmp Cop.is (CE.call 0 [CE.var 2, CE.cst (PV.str [110, 111, 116, 101])]) (CE.cst PV.non))
        [CS.ret (CE.cst (PV.str [110, 111, 116, 101]))] [],
      CS.asg (Tg.var 4) (CE.call 13 [CE.var 0, (CE.var 1).idx (CE.cst (PV.int (0))), CE.var 2]),
      CS.ife (CE.cmp Cop.isn (CE.var 4) (CE.cst PV.non)) [CS.ret (CE.var 4)] []]
    [],
  CS.ife
    ((CE.cmp Cop.in (CE.cst (PV.str [109, 97, 114, 107])) (CE.var 3)).and
      (CE.call 11 [(CE.var 2).idx (CE.cst (PV.int (1)))]).not)
    [CS.ret (CE.cst (PV.str [109, 97, 114, 107]))] [],
  CS.ife
    ((CE.cmp Cop.in (CE.cst (PV.str [116, 111])) (CE.var 3)).and
      (CE.call 9
          [(CE.var 2).idx (CE.cst (PV.int (1))).neg, CE.cst (PV.int (0)),
            CE.bin Bop.sub (CE.blt Blt.len [(CE.var 1).idx (CE.cst (PV.int (1)))])
              (CE.cst (PV.int (1)))]).not)
    [CS.ret (CE.cst (PV.str [116, 111]))] [],
  CS.ret (CE.cst PV.non)]
/-- check_code -/
def b15 : List CS :=
  [CS.ife (CE.call 12 [CE.var 1]).not [CS.bad] [],
  CS.frr (Tg.tup [Tg.var 2, Tg.var 3]) (CI.enum ((CE.var 1).idx (CE.cst (PV.int (1)))))
    [CS.asg (Tg.var 4) (CE.call 14 [CE.var 0, CE.var 1, CE.var 3]),
      CS.ife (CE.cmp Cop.isn (CE.var 4) (CE.cst PV.non)) [CS.bad] []],
  CS.ife
    (CE.cmp Cop.nin
      ((((CE.var 1).idx (CE.cst (PV.int (1)))).idx (CE.cst (PV.int (1))).neg).idx
        (CE.cst (PV.int (0))))
      (CE.tup [CE.cst (PV.str [103, 111]), CE.cst (PV.str [115, 116, 111, 112])]))
    [CS.bad] [],
  CS.ret (CE.blt Blt.len [(CE.var 1).idx (CE.cst (PV.int (1)))])]
/-- _law_yarn -/
def b16 : List CS :=
  [CS.asg (Tg.var 1) (CE.cst (PV.int (606017))), CS.asg (Tg.var 2) (CE.lst []),
  CS.frr (Tg.var 3) (CI.rng1 (CE.blt Blt.min [CE.blt Blt.len [CE.var 0], CE.cst (PV.int (48))]))
    [CS.asg (Tg.var 4)
        (CE.bin Bop.mod (CE.blt Blt.abs [CE.blt Blt.int [(CE.var 0).idx (CE.var 3)]])
          (CE.bin Bop.shl (CE.cst (PV.int (1))) (CE.cst (PV.int (1900))))),
      CS.asg (Tg.var 1)
        (CE.bin Bop.mod
          (CE.blt Blt.int
            [CE.bin Bop.add
                (CE.bin Bop.add (CE.bin Bop.mul (CE.var 1) (CE.cst (PV.int (28001))))
                  (CE.bin Bop.mod (CE.var 4) (CE.cst (PV.int (1000289)))))
                (CE.bin Bop.mul (CE.cst (PV.int (17))) (CE.var 3))])
          (CE.cst (PV.int (2147481589)))),
      CS.ife
        (CE.cmp Cop.ge (CE.var 4) (CE.bin Bop.pow (CE.cst (PV.int (10))) (CE.cst (PV.int (15)))))
        [CS.exp (CE.mth Mth.insert (CE.var 2) [CE.cst (PV.int (0)), CE.var 4])] []],
  CS.ret (CE.lst [CE.var 2, CE.var 1, CE.cst (PV.int (0)), CE.dct0])]
/-- _law_knot -/
def b17 : List CS :=
  [CS.ife (CE.cmp Cop.lt (CE.var 2) (CE.cst (PV.int (2)))) [CS.ret (CE.cst (PV.int (0)))] [],
  CS.asgS (CE.var 0) (CE.cst (PV.int (2)))
    (CE.bin Bop.add ((CE.var 0).idx (CE.cst (PV.int (2)))) (CE.cst (PV.int (1)))),
  CS.ife
    (CE.cmp Cop.gt (CE.blt Blt.len [(CE.var 0).idx (CE.cst (PV.int (0)))]) (CE.cst (PV.int (0))))
    [CS.asg (Tg.var 4) (CE.mth Mth.pop ((CE.var 0).idx (CE.cst (PV.int (0)))) []),
      CS.ife (CE.cmp Cop.ge (CE.var 4) (CE.var 2))
        [CS.exp
            (CE.mth Mth.append ((CE.var 0).idx (CE.cst (PV.int (0))))
              [CE.bin Bop.fdiv (CE.var 4) (CE.var 2)])]
        [],
      CS.ret (CE.bin Bop.mod (CE.blt Blt.int [CE.var 4]) (CE.var 2))]
    [],
  CS.asgS (CE.var 0) (CE.cst (PV.int (1)))
    (CE.bin Bop.mod
      (CE.blt Blt.int
        [CE.bin Bop.add
            (CE.bin Bop.add
              (CE.bin Bop.add
                (CE.bin Bop.mul ((CE.var 0).idx (CE.cst (PV.int (1)))) (CE.cst (PV.int (46021))))
                (CE.bin Bop.mul ((CE.var 0).idx (CE.cst (PV.int (2)))) (CE.cst (PV.int (2081)))))
              (CE.bin Bop.mul (CE.var 1) (CE.cst (PV.int (67)))))
            (CE.cst (PV.int (29)))])
      (CE.cst (PV.int (2147481589)))),
  CS.ife (CE.cmp Cop.nin (CE.var 1) ((CE.var 0).idx (CE.cst (PV.int (3)))))
    [CS.asgS ((CE.var 0).idx (CE.cst (PV.int (3)))) (CE.var 1)
        (CE.bin Bop.mod
          (CE.blt Blt.int
            [CE.bin Bop.fdiv ((CE.var 0).idx (CE.cst (PV.int (1)))) (CE.cst (PV.int (59)))])
          (CE.cst (PV.int (13)))),
      CS.asgS (CE.var 0) (CE.cst (PV.int (1)))
        (CE.bin Bop.mod
          (CE.blt Blt.int
            [CE.bin Bop.add
                (CE.bin Bop.mul ((CE.var 0).idx (CE.cst (PV.int (1)))) (CE.cst (PV.int (69621))))
                ((CE.var 0).idx (CE.cst (PV.int (2))))])
          (CE.cst (PV.int (2147481589))))]
    [],
  CS.asg (Tg.var 3) (((CE.var 0).idx (CE.cst (PV.int (3)))).idx (CE.var 1)),
  CS.ife
    ((CE.cmp Cop.eq (CE.var 3) (CE.cst (PV.int (0)))).or
      (CE.cmp Cop.eq (CE.var 3) (CE.cst (PV.int (12)))))
    [CS.ret
        (CE.bin Bop.mul (CE.bin Bop.sub (CE.var 2) (CE.cst (PV.int (1))))
          (CE.blt Blt.int [CE.cmp Cop.eq (CE.var 3) (CE.cst (PV.int (12)))]))]
    [],
  CS.ret
    (CE.bin Bop.mod
      (CE.blt Blt.int
        [CE.bin Bop.fdiv ((CE.var 0).idx (CE.cst (PV.int (1)))) (CE.cst (PV.int (103)))])
      (CE.var 2))]
/-- _law_to -/
def b18 : List CS :=
  [CS.asg (Tg.var 3) (CE.call 17 [CE.var 0, CE.cst (PV.int (1)), CE.cst (PV.int (6))]),
  CS.ife (CE.cmp Cop.eq (CE.var 3) (CE.cst (PV.int (0))))
    [CS.ret
        (CE.blt Blt.min
          [CE.bin Bop.add (CE.var 1) (CE.cst (PV.int (1))),
            CE.bin Bop.sub (CE.var 2) (CE.cst (PV.int (1)))])]
    [],
  CS.ife (CE.cmp Cop.eq (CE.var 3) (CE.cst (PV.int (1))))
    [CS.ret
        ((CE.tup
              [CE.var 1, CE.bin Bop.sub (CE.var 2) (CE.cst (PV.int (1))), CE.cst (PV.int (0))]).idx
          (CE.call 17 [CE.var 0, CE.cst (PV.int (2)), CE.cst (PV.int (3))]))]
    [],
  CS.ife (CE.cmp Cop.eq (CE.var 3) (CE.cst (PV.int (2))))
    [CS.ret
        (CE.blt Blt.min
          [CE.bin Bop.sub (CE.var 2) (CE.cst (PV.int (1))),
            CE.bin Bop.add (CE.bin Bop.add (CE.var 1) (CE.cst (PV.int (1))))
              (CE.call 17 [CE.var 0, CE.cst (PV.int (3)), CE.cst (PV.int (4))])])]
    [],
  CS.ret (CE.call 17 [CE.var 0, CE.cst (PV.int (4)), CE.var 2])]
/-- _law_code -/
def b19 : List CS :=
  [CS.asg (Tg.var 2) (CE.lst []),
  CS.frr (Tg.var 3) (CI.rng1 (CE.bin Bop.sub (CE.var 1) (CE.cst (PV.int (1)))))
    [CS.asg (Tg.var 5) (CE.call 18 [CE.var 0, CE.var 3, CE.var 1]),
      CS.asg (Tg.var 6) (CE.call 17 [CE.var 0, CE.cst (PV.int (5)), CE.cst (PV.int (15))]),
      CS.ife (CE.cmp Cop.lt (CE.var 6) (CE.cst (PV.int (6))))
        [CS.exp (CE.mth Mth.append (CE.var 2) [CE.tup [CE.cst (PV.str [103, 111]), CE.var 5]])]
        [CS.exp
            (CE.mth Mth.append (CE.var 2)
              [(CE.tup
                      [CE.tup
                          [CE.cst (PV.str [105, 102]), CE.cst (PV.int (1)), CE.cst (PV.int (2)),
                            CE.var 5],
                        CE.tup [CE.cst (PV.str [101, 105, 116, 104, 101, 114]), CE.var 5],
                        CE.tup
                          [CE.cst (PV.str [97, 115, 107]), CE.cst (PV.int (0)), CE.cst (PV.int (1)),
                            CE.var 5],
                        CE.tup
                          [CE.cst (PV.str [112, 117, 116]), CE.cst (PV.int (0)),
                            CE.cst (PV.int (1))],
                        CE.tup [CE.cst (PV.str [115, 116, 111, 112])],
                        CE.tup
                          [CE.cst (PV.str [119, 97, 105, 116]), CE.cst (PV.int (1)),
                            CE.cst (PV.int (0))],
                        CE.tup [CE.cst (PV.str [109, 97, 114, 107]), CE.cst (PV.str [105, 110])],
                        CE.tup
                          [CE.cst (PV.str [115, 101, 116]), CE.cst (PV.int (0)),
                            CE.cst (PV.int (2))],
                        CE.tup
                          [CE.cst (PV.str [108, 111, 111, 107]), CE.cst (PV.int (0)),
                            CE.cst (PV.int (1))]]).idx
                  (CE.bin Bop.sub (CE.var 6) (CE.cst (PV.int (6))))])]],
  CS.asg (Tg.var 4)
    ((CE.cmp Cop.eq (CE.call 17 [CE.var 0, CE.cst (PV.int (6)), CE.cst (PV.int (2))])
          (CE.cst (PV.int (0)))).ite
      (CE.tup [CE.cst (PV.str [115, 116, 111, 112])])
      (CE.tup
        [CE.cst (PV.str [103, 111]),
          CE.call 18 [CE.var 0, CE.bin Bop.sub (CE.var 1) (CE.cst (PV.int (1))), CE.var 1]])),
  CS.ret
    (CE.tup [CE.tup [CE.cst (PV.int (2))], CE.bin Bop.add (CE.blt Blt.tuple [CE.var 2]) (CE.tup [CE.var 4])])]
/-- _law_next -/
def b20 : List CS :=
  [CS.asg (Tg.var 2) ((CE.var 0).idx (CE.var 1)),
  CS.ife (CE.cmp Cop.eq ((CE.var 2).idx (CE.cst (PV.int (0)))) (CE.cst (PV.str [115, 116, 111, 112])))
    [CS.ret (CE.lst [])] [],
  CS.ife (CE.cmp Cop.eq ((CE.var 2).idx (CE.cst (PV.int (0)))) (CE.cst (PV.str [103, 111])))
    [CS.ret (CE.lst [(CE.var 2).idx (CE.cst (PV.int (1)))])] [],
  CS.ife
    (CE.cmp Cop.in ((CE.var 2).idx (CE.cst (PV.int (0))))
      (CE.tup
        [CE.cst (PV.str [105, 102]), CE.cst (PV.str [101, 105, 116, 104, 101, 114]), CE.cst (PV.str [97, 115, 107])]))
    [CS.ret
        (CE.blt Blt.sorted
          [CE.blt Blt.set
              [CE.lst
                  [CE.bin Bop.add (CE.var 1) (CE.cst (PV.int (1))),
                    (CE.var 2).idx (CE.cst (PV.int (1))).neg]]])]
    [],
  CS.ret (CE.lst [CE.bin Bop.add (CE.var 1) (CE.cst (PV.int (1)))])]
/-- _law_reached -/
def b21 : List CS :=
  [CS.asg (Tg.var 1) (CE.lst [CE.cst (PV.int (0))]),
  CS.frr (Tg.var 2) (CI.rng1 (CE.blt Blt.len [CE.var 0]))
    [CS.ife (CE.cmp Cop.eq (CE.var 2) (CE.blt Blt.len [CE.var 1])) [CS.brk] [],
      CS.exp
        ((CE.var 1).ext
          ((CE.var 3).lc (Tg.var 3) (CI.exp (CE.call 20 [CE.var 0, (CE.var 1).idx (CE.var 2)]))
            [CE.cmp Cop.nin (CE.var 3) (CE.var 1)] [3]))],
  CS.ret (CE.blt Blt.sorted [CE.var 1])]
/-- _law_led -/
def b22 : List CS :=
  [CS.ret
    ((CE.cmp Cop.in ((CE.var 0).idx (CE.cst (PV.int (0))))
          (CE.tup
            [CE.cst (PV.str [105, 102]), CE.cst (PV.str [101, 105, 116, 104, 101, 114]), CE.cst (PV.str [97, 115, 107]),
              CE.cst (PV.str [103, 111])])).ite
      (CE.bin Bop.add ((CE.var 0).slc none (some (CE.cst (PV.int (1))).neg))
        (CE.tup [(CE.var 1).idx ((CE.var 0).idx (CE.cst (PV.int (1))).neg)]))
      (CE.var 0))]
/-- _law_short -/
def b23 : List CS :=
  [CS.asg (Tg.var 1) (CE.call 21 [(CE.var 0).idx (CE.cst (PV.int (1)))]),
  CS.asg (Tg.var 2)
    ((CE.blt Blt.len [(CE.var 7).lc (Tg.var 7) (CI.exp (CE.var 1)) [CE.cmp Cop.lt (CE.var 7) (CE.var 6)] [7]]).lc
      (Tg.var 6) (CI.rng1 (CE.blt Blt.len [(CE.var 0).idx (CE.cst (PV.int (1)))])) [] [6]),
  CS.asg (Tg.var 3)
    ((CE.call 22 [((CE.var 0).idx (CE.cst (PV.int (1)))).idx (CE.var 6), CE.var 2]).lc (Tg.var 6)
      (CI.exp (CE.var 1)) [] [6]),
  CS.frr (Tg.var 4) (CI.rng1 (CE.blt Blt.len [(CE.var 0).idx (CE.cst (PV.int (1)))]))
    [CS.asg (Tg.var 5)
        ((CE.var 6).lc (Tg.var 6) (CI.rng1 (CE.blt Blt.len [CE.var 3]))
          [(CE.cmp Cop.eq (((CE.var 3).idx (CE.var 6)).idx (CE.cst (PV.int (0))))
                  (CE.cst (PV.str [103, 111]))).and
              (CE.cmp Cop.eq (((CE.var 3).idx (CE.var 6)).idx (CE.cst (PV.int (1))))
                (CE.bin Bop.add (CE.var 6) (CE.cst (PV.int (1)))))]
          [6]),
      CS.ife (CE.cmp Cop.eq (CE.blt Blt.len [CE.var 5]) (CE.cst (PV.int (0)))) [CS.brk] [],
      CS.asg (Tg.var 2)
        ((CE.bin Bop.sub (CE.var 6)
              (CE.blt Blt.int [CE.cmp Cop.gt (CE.var 6) ((CE.var 5).idx (CE.cst (PV.int (0))))])).lc
          (Tg.var 6) (CI.rng1 (CE.blt Blt.len [CE.var 3])) [] [6]),
      CS.asg (Tg.var 3)
        ((CE.call 22 [(CE.var 3).idx (CE.var 6), CE.var 2]).lc (Tg.var 6) (CI.rng1 (CE.blt Blt.len [CE.var 3]))
          [CE.cmp Cop.ne (CE.var 6) ((CE.var 5).idx (CE.cst (PV.int (0))))] [6])],
  CS.ret (CE.tup [(CE.var 0).idx (CE.cst (PV.int (0))), CE.blt Blt.tuple [CE.var 3]])]
/-- _law_same -/
def b24 : List CS :=
  [CS.ife ((CE.var 1).isi Ty.tuple)
    [CS.ife (((CE.var 0).isi Ty.tuple).not.or (CE.cmp Cop.ne (CE.blt Blt.len [CE.var 0]) (CE.blt Blt.len [CE.var 1])))
        [CS.ret (CE.cst (PV.bl false))] [],
      CS.frr (Tg.var 2) (CI.rng1 (CE.blt Blt.len [CE.var 1]))
        [CS.ife (CE.call 24 [(CE.var 0).idx (CE.var 2), (CE.var 1).idx (CE.var 2)]).not [CS.ret (CE.cst (PV.bl false))]
            []],
      CS.ret (CE.cst (PV.bl true))]
    [],
  CS.ife ((CE.var 1).isi Ty.str) [CS.ret (((CE.var 0).isi Ty.str).and (CE.cmp Cop.eq (CE.var 0) (CE.var 1)))] [],
  CS.ret (((CE.var 0).isi Ty.int).and (((CE.var 0).isi Ty.bool).not.and (CE.cmp Cop.eq (CE.var 0) (CE.var 1))))]
/-- _law_asked -/
def b25 : List CS :=
  [CS.asg (Tg.var 3) ((CE.var 1).idx (CE.cst (PV.int (1)))),
  CS.frr (Tg.var 4)
    (CI.exp
      ((CE.var 2).ite (CE.rngS false (CE.cst (PV.int (0))) (CE.blt Blt.len [CE.var 3]))
        (CE.lst
          [CE.cst (PV.int (0)), CE.bin Bop.sub (CE.blt Blt.len [CE.var 3]) (CE.cst (PV.int (1))),
            CE.call 17 [CE.var 0, CE.cst (PV.int (7)), CE.blt Blt.len [CE.var 3]]])))
    [CS.ife
        (CE.call 24 [CE.callK 2 [] [CE.var 4, CE.var 1] [1, 0], CE.blt Blt.tuple [CE.call 20 [CE.var 3, CE.var 4]]]).not
        [CS.ret (CE.cst (PV.bl false))] []],
  CS.asg (Tg.tup [Tg.var 5, Tg.var 6]) (CE.tup [CE.call 21 [CE.var 3], CE.call 23 [CE.var 1]]),
  CS.asg (Tg.var 7)
    (CE.blt Blt.tuple
      [(CE.var 4).lc (Tg.var 4) (CI.rng1 (CE.blt Blt.len [CE.var 3])) [CE.cmp Cop.nin (CE.var 4) (CE.var 5)] [4]]),
  CS.ife
    (CE.call 24
        [CE.tup [CE.call 3 [CE.var 1], CE.call 4 [CE.var 1], CE.call 7 [CE.var 1]],
          CE.tup [CE.blt Blt.tuple [CE.var 5], CE.var 7, CE.var 6]]).not
    [CS.ret (CE.cst (PV.bl false))] [],
  CS.asg (Tg.var 8)
    (CE.tup
      [CE.call 15 [CE.tup [CE.cst (PV.int (2)), CE.cst (PV.int (3))], CE.var 6],
        CE.callK 7 [] [CE.var 6] [0], CE.call 4 [CE.var 6], CE.call 3 [CE.var 6]]),
  CS.ret
    (CE.call 24
      [CE.var 8,
        CE.tup
          [CE.blt Blt.len [(CE.var 6).idx (CE.cst (PV.int (1)))], CE.var 6, CE.tup [],
            CE.rngS true (CE.cst (PV.int (0)))
              (CE.blt Blt.len [(CE.var 6).idx (CE.cst (PV.int (1)))])]])]
/-- _law_sheet -/
def b26 : List CS :=
  [CS.asg (Tg.var 1) (CE.lst []),
  CS.frr (Tg.var 2)
    (CI.rng1
      (CE.bin Bop.add (CE.cst (PV.int (1)))
        (CE.call 17 [CE.var 0, CE.cst (PV.int (8)), CE.cst (PV.int (4))])))
    [CS.asg (Tg.tup [Tg.var 3, Tg.var 4])
        (CE.tup
          [CE.blt Blt.len [CE.var 1],
            CE.call 17 [CE.var 0, CE.cst (PV.int (9)), CE.cst (PV.int (3))]]),
      CS.ife
        (CE.cmp Cop.eq (CE.call 17 [CE.var 0, CE.cst (PV.int (10)), CE.cst (PV.int (2))])
          (CE.cst (PV.int (0))))
        [CS.asg (Tg.var 5) (CE.call 17 [CE.var 0, CE.cst (PV.int (11)), CE.cst (PV.int (3))]),
          CS.asg (Tg.var 1)
            (CE.bin Bop.add
              (CE.bin Bop.add
                (CE.bin Bop.add
                  (CE.bin Bop.add (CE.var 1)
                    (CE.lst
                      [CE.tup
                          [CE.cst (PV.str [101, 105, 116, 104, 101, 114]),
                            CE.bin Bop.add (CE.bin Bop.add (CE.var 3) (CE.cst (PV.int (2)))) (CE.var 4)]]))
                  (CE.bin Bop.mul
                    (CE.lst
                      [CE.tup
                          [CE.cst (PV.str [112, 117, 116]), CE.cst (PV.int (0)),
                            CE.cst (PV.int (1))]])
                    (CE.var 4)))
                (CE.lst
                  [CE.tup
                      [CE.cst (PV.str [103, 111]),
                        CE.bin Bop.add
                          (CE.bin Bop.add (CE.bin Bop.add (CE.var 3) (CE.cst (PV.int (2)))) (CE.var 4))
                          (CE.var 5)]]))
              (CE.bin Bop.mul (CE.lst [CE.tup [CE.cst (PV.str [115, 116, 111, 112])]]) (CE.var 5)))]
        [CS.asg (Tg.var 1)
            (CE.bin Bop.add (CE.var 1)
              (CE.bin Bop.mul
                (CE.lst
                  [CE.tup
                      [CE.cst (PV.str [103, 111]),
                        CE.bin Bop.add
                          (CE.bin Bop.add (CE.bin Bop.add (CE.var 3) (CE.cst (PV.int (1)))) (CE.var 4))
                          (CE.cst (PV.int (1)))]])
                (CE.call 17 [CE.var 0, CE.cst (PV.int (12)), CE.cst (PV.int (2))]))),
          CS.asg (Tg.var 6) (CE.blt Blt.len [CE.var 1]),
          CS.asg (Tg.var 1)
            (CE.bin Bop.add
              (CE.bin Bop.add (CE.var 1)
                (CE.bin Bop.mul
                  (CE.lst
                    [CE.tup
                        [CE.cst (PV.str [119, 97, 105, 116]), CE.cst (PV.int (1)),
                          CE.cst (PV.int (1))]])
                  (CE.var 4)))
              (CE.lst [CE.tup [CE.cst (PV.str [103, 111]), CE.var 6]])),
          CS.ife (CE.cmp Cop.gt (CE.var 6) (CE.var 3))
            [CS.asgS (CE.var 1) (CE.var 3) (CE.tup [CE.cst (PV.str [103, 111]), CE.blt Blt.len [CE.var 1]])] []]],
  CS.ret
    (CE.tup
      [CE.tup [CE.cst (PV.int (2))],
        CE.bin Bop.add (CE.blt Blt.tuple [CE.var 1]) (CE.tup [CE.tup [CE.cst (PV.str [115, 116, 111, 112])]])])]
/-- _law_hand -/
def b27 : List CS :=
  [CS.asg (Tg.var 0)
    (CE.lst
      [CE.tup
          [CE.tup
              [CE.tup [CE.cst (PV.str [101, 105, 116, 104, 101, 114]), CE.cst (PV.int (2))],
                CE.tup [CE.cst (PV.str [112, 117, 116]), CE.cst (PV.int (0)), CE.cst (PV.int (1))],
                CE.tup [CE.cst (PV.str [115, 116, 111, 112])]],
            CE.tup [],
            CE.tup
              [CE.tup [CE.cst (PV.str [101, 105, 116, 104, 101, 114]), CE.cst (PV.int (2))],
                CE.tup [CE.cst (PV.str [112, 117, 116]), CE.cst (PV.int (0)), CE.cst (PV.int (1))],
                CE.tup [CE.cst (PV.str [115, 116, 111, 112])]]],
        CE.tup
          [CE.tup
              [CE.tup [CE.cst (PV.str [103, 111]), CE.cst (PV.int (2))],
                CE.tup [CE.cst (PV.str [112, 117, 116]), CE.cst (PV.int (0)), CE.cst (PV.int (1))],
                CE.tup [CE.cst (PV.str [115, 116, 111, 112])]],
            CE.tup [CE.cst (PV.int (1))], CE.tup [CE.tup [CE.cst (PV.str [115, 116, 111, 112])]]]]),
  CS.asg (Tg.var 0)
    (CE.bin Bop.add (CE.var 0)
      (CE.lst
        [CE.tup
            [CE.tup
                [CE.tup [CE.cst (PV.str [103, 111]), CE.cst (PV.int (2))],
                  CE.tup
                    [CE.cst (PV.str [112, 117, 116]), CE.cst (PV.int (0)), CE.cst (PV.int (1))],
                  CE.tup [CE.cst (PV.str [103, 111]), CE.cst (PV.int (3))],
                  CE.tup [CE.cst (PV.str [115, 116, 111, 112])]],
              CE.tup [CE.cst (PV.int (1))], CE.tup [CE.tup [CE.cst (PV.str [115, 116, 111, 112])]]]])),
  CS.asg (Tg.var 0)
    (CE.bin Bop.add (CE.var 0)
      (CE.lst
        [CE.tup
            [CE.tup
                [CE.tup [CE.cst (PV.str [103, 111]), CE.cst (PV.int (0))],
                  CE.tup [CE.cst (PV.str [115, 116, 111, 112])]],
              CE.tup [CE.cst (PV.int (1))],
              CE.tup [CE.tup [CE.cst (PV.str [103, 111]), CE.cst (PV.int (0))]]],
          CE.tup
            [CE.tup
                [CE.tup [CE.cst (PV.str [103, 111]), CE.cst (PV.int (1))],
                  CE.tup [CE.cst (PV.str [103, 111]), CE.cst (PV.int (0))]],
              CE.tup [], CE.tup [CE.tup [CE.cst (PV.str [103, 111]), CE.cst (PV.int (0))]]],
          CE.tup
            [CE.tup
                [CE.tup [CE.cst (PV.str [112, 117, 116]), CE.cst (PV.int (0)), CE.cst (PV.int (1))],
                  CE.tup [CE.cst (PV.str [103, 111]), CE.cst (PV.int (2))],
                  CE.tup [CE.cst (PV.str [103, 111]), CE.cst (PV.int (1))]],
              CE.tup [],
              CE.tup
                [CE.tup [CE.cst (PV.str [112, 117, 116]), CE.cst (PV.int (0)), CE.cst (PV.int (1))],
                  CE.tup [CE.cst (PV.str [103, 111]), CE.cst (PV.int (1))]]]])),
  CS.asg (Tg.var 0)
    (CE.bin Bop.add (CE.var 0)
      (CE.lst
        [CE.tup
            [CE.tup
                [CE.tup [CE.cst (PV.str [101, 105, 116, 104, 101, 114]), CE.cst (PV.int (1))],
                  CE.tup [CE.cst (PV.str [103, 111]), CE.cst (PV.int (2))],
                  CE.tup [CE.cst (PV.str [115, 116, 111, 112])]],
              CE.tup [],
              CE.tup
                [CE.tup [CE.cst (PV.str [101, 105, 116, 104, 101, 114]), CE.cst (PV.int (1))],
                  CE.tup [CE.cst (PV.str [115, 116, 111, 112])]]],
          CE.tup
            [CE.tup
                [CE.tup [CE.cst (PV.str [115, 116, 111, 112])],
                  CE.tup [CE.cst (PV.str [103, 111]), CE.cst (PV.int (0))]],
              CE.tup [CE.cst (PV.int (1))], CE.tup [CE.tup [CE.cst (PV.str [115, 116, 111, 112])]]]])),
  CS.asg (Tg.var 0)
    (CE.bin Bop.add (CE.var 0)
      (CE.lst
        [CE.tup
            [CE.tup
                [CE.tup
                    [CE.cst (PV.str [105, 102]), CE.cst (PV.int (0)), CE.cst (PV.int (1)),
                      CE.cst (PV.int (3))],
                  CE.tup [CE.cst (PV.str [103, 111]), CE.cst (PV.int (4))],
                  CE.tup [CE.cst (PV.str [115, 116, 111, 112])],
                  CE.tup [CE.cst (PV.str [103, 111]), CE.cst (PV.int (1))],
                  CE.tup [CE.cst (PV.str [109, 97, 114, 107]), CE.cst (PV.str [97])],
                  CE.tup [CE.cst (PV.str [103, 111]), CE.cst (PV.int (0))]],
              CE.tup [CE.cst (PV.int (2))],
              CE.tup
                [CE.tup
                    [CE.cst (PV.str [105, 102]), CE.cst (PV.int (0)), CE.cst (PV.int (1)),
                      CE.cst (PV.int (2))],
                  CE.tup [CE.cst (PV.str [103, 111]), CE.cst (PV.int (3))],
                  CE.tup [CE.cst (PV.str [103, 111]), CE.cst (PV.int (1))],
                  CE.tup [CE.cst (PV.str [109, 97, 114, 107]), CE.cst (PV.str [97])],
                  CE.tup [CE.cst (PV.str [103, 111]), CE.cst (PV.int (0))]]]])),
  CS.asg (Tg.var 0)
    (CE.bin Bop.add (CE.var 0)
      (CE.lst
        [CE.tup
            [CE.tup
                [CE.tup
                    [CE.cst (PV.str [97, 115, 107]), CE.cst (PV.int (0)), CE.cst (PV.int (1)),
                      CE.cst (PV.int (3))],
                  CE.tup [CE.cst (PV.str [103, 111]), CE.cst (PV.int (2))],
                  CE.tup [CE.cst (PV.str [103, 111]), CE.cst (PV.int (3))],
                  CE.tup [CE.cst (PV.str [103, 111]), CE.cst (PV.int (4))],
                  CE.tup [CE.cst (PV.str [115, 116, 111, 112])]],
              CE.tup [],
              CE.tup
                [CE.tup
                    [CE.cst (PV.str [97, 115, 107]), CE.cst (PV.int (0)), CE.cst (PV.int (1)),
                      CE.cst (PV.int (1))],
                  CE.tup [CE.cst (PV.str [115, 116, 111, 112])]]]])),
  CS.frr (Tg.tup [Tg.var 1, Tg.var 2, Tg.var 3]) (CI.exp (CE.var 0))
    [CS.asg (Tg.var 6) (CE.tup [CE.tup [CE.cst (PV.int (2))], CE.var 1]),
      CS.asg (Tg.var 5) (CE.tup [CE.call 4 [CE.var 6], CE.call 7 [CE.var 6], CE.call 3 [CE.var 6]]),
      CS.ife
        ((CE.call 24
                [CE.var 5,
                  CE.tup
                    [CE.var 2, CE.tup [CE.tup [CE.cst (PV.int (2))], CE.var 3],
                      CE.blt Blt.tuple
                        [(CE.var 7).lc (Tg.var 7) (CI.rng1 (CE.blt Blt.len [CE.var 1]))
                            [CE.cmp Cop.nin (CE.var 7) (CE.var 2)] [7]]]]).not.or
          (CE.call 24 [(CE.call 23 [CE.var 6]).idx (CE.cst (PV.int (1))), CE.var 3]).not)
        [CS.ret (CE.cst (PV.bl false))] []],
  CS.asg (Tg.var 4)
    (CE.tup
      [CE.tup [CE.cst (PV.int (2))],
        CE.tup
          [CE.tup [CE.cst (PV.str [101, 105, 116, 104, 101, 114]), CE.cst (PV.int (0))],
            CE.tup
              [CE.cst (PV.str [105, 102]), CE.cst (PV.int (0)), CE.cst (PV.int (1)),
                CE.cst (PV.int (2))],
            CE.tup [CE.cst (PV.str [103, 111]), CE.cst (PV.int (2))],
            CE.tup
              [CE.cst (PV.str [97, 115, 107]), CE.cst (PV.int (0)), CE.cst (PV.int (0)),
                CE.cst (PV.int (1))],
            CE.tup [CE.cst (PV.str [108, 111, 111, 107]), CE.cst (PV.int (0)), CE.cst (PV.int (0))],
            CE.tup [CE.cst (PV.str [116, 101, 108, 108]), CE.cst (PV.int (0)), CE.cst (PV.int (0))],
            CE.tup [CE.cst (PV.str [115, 116, 111, 112])]]]),
  CS.asg (Tg.var 5)
    (CE.blt Blt.tuple
      [(CE.call 2 [CE.var 4, CE.var 7]).lc (Tg.var 7) (CI.rng1 (CE.cst (PV.int (7)))) [] [7]]),
  CS.ret
    (CE.call 24
      [CE.var 5,
        CE.tup
          [CE.tup [CE.cst (PV.int (0)), CE.cst (PV.int (1))],
            CE.tup [CE.cst (PV.int (2))], CE.tup [CE.cst (PV.int (2))],
            CE.tup [CE.cst (PV.int (1)), CE.cst (PV.int (4))],
            CE.tup [CE.cst (PV.int (5))], CE.tup [CE.cst (PV.int (6))], CE.tup []]])]
/-- law -/
def b28 : List CS :=
  [CS.asg (Tg.var 1) (CE.call 16 [CE.var 0]), CS.ife (CE.call 27 []).not [CS.ret (CE.cst (PV.bl false))] [],
  CS.frr (Tg.var 2) (CI.rng1 (CE.cst (PV.int (3))))
    [CS.ife
        ((CE.call 25
                [CE.var 1,
                  CE.call 19
                    [CE.var 1,
                      (CE.tup
                            [CE.bin Bop.add (CE.cst (PV.int (1)))
                                (CE.call 17 [CE.var 1, CE.cst (PV.int (13)), CE.cst (PV.int (16))]),
                              CE.cst (PV.int (6)), CE.cst (PV.int (11))]).idx
                        (CE.var 2)],
                  CE.cst (PV.bl true)]).not.or
          (CE.call 25 [CE.var 1, CE.call 26 [CE.var 1], CE.cst (PV.bl true)]).not)
        [CS.ret (CE.cst (PV.bl false))] []],
  CS.ife
    (CE.cmp Cop.ne
      (CE.bin Bop.mod
        (CE.blt Blt.int
          [CE.bin Bop.fdiv ((CE.var 1).idx (CE.cst (PV.int (1)))) (CE.cst (PV.int (5)))])
        (CE.cst (PV.int (7))))
      (CE.cst (PV.int (6))))
    [CS.ret (CE.cst (PV.bl true))] [],
  CS.asg (Tg.var 3)
    (CE.blt Blt.tuple
      [((CE.tup
                  [CE.tup
                      [CE.cst (PV.str [112, 117, 116]), CE.cst (PV.int (0)), CE.cst (PV.int (1))],
                    CE.tup [CE.cst (PV.str [103, 111]), CE.bin Bop.add (CE.var 4) (CE.cst (PV.int (1)))],
                    CE.tup
                      [CE.cst (PV.str [101, 105, 116, 104, 101, 114]),
                        CE.bin Bop.add (CE.var 4) (CE.cst (PV.int (2)))]]).idx
              (CE.call 17 [CE.var 1, CE.cst (PV.int (14)), CE.cst (PV.int (3))])).lc
          (Tg.var 4) (CI.rng1 (CE.cst (PV.int (119)))) [] [4]]),
  CS.ret
    ((CE.call 25
          [CE.var 1,
            CE.tup
              [CE.tup [CE.cst (PV.int (2))],
                CE.bin Bop.add (CE.var 3)
                  (CE.tup
                    [CE.tup
                        [CE.cst (PV.str [112, 117, 116]), CE.cst (PV.int (1)), CE.cst (PV.int (2))],
                      CE.tup [CE.cst (PV.str [115, 116, 111, 112])]])],
            CE.cst (PV.bl false)]).and
      (CE.call 25 [CE.var 1, CE.call 19 [CE.var 1, CE.cst (PV.int (121))], CE.cst (PV.bl false)]))]
def e0 : Def := ⟨2, 5, 0, b0⟩
def e1 : Def := ⟨2, 2, 0, b1⟩
def e2 : Def := ⟨2, 5, 0, b2⟩
def e3 : Def := ⟨1, 4, 0, b3⟩
def e4 : Def := ⟨1, 3, 0, b4⟩
def e5 : Def := ⟨3, 7, 0, b5⟩
def e6 : Def := ⟨1, 4, 0, b6⟩
def e7 : Def := ⟨1, 6, 0, b7⟩
def e8 : Def := ⟨1, 1, 0, b8⟩
def e9 : Def := ⟨3, 3, 0, b9⟩
def e10 : Def := ⟨2, 2, 0, b10⟩
def e11 : Def := ⟨1, 2, 0, b11⟩
def e12 : Def := ⟨1, 6, 0, b12⟩
def e13 : Def := ⟨3, 4, 0, b13⟩
def e14 : Def := ⟨3, 5, 0, b14⟩
def e15 : Def := ⟨2, 5, 0, b15⟩
def e16 : Def := ⟨1, 5, 2, b16⟩
def e17 : Def := ⟨3, 5, 2, b17⟩
def e18 : Def := ⟨3, 4, 2, b18⟩
def e19 : Def := ⟨2, 7, 2, b19⟩
def e20 : Def := ⟨2, 3, 0, b20⟩
def e21 : Def := ⟨1, 4, 0, b21⟩
def e22 : Def := ⟨2, 2, 2, b22⟩
def e23 : Def := ⟨1, 8, 0, b23⟩
def e24 : Def := ⟨2, 3, 0, b24⟩
def e25 : Def := ⟨3, 9, 2, b25⟩
def e26 : Def := ⟨1, 7, 2, b26⟩
def e27 : Def := ⟨0, 8, 0, b27⟩
def e28 : Def := ⟨1, 5, 2, b28⟩
def gl : List PV := [((0 : Nat), (.tup [(.str [112, 108, 97, 99, 101]), (.str [110, 111, 116, 101]), (.str [109, 97, 107, 101]), (.str [115, 105, 110, 103, 108, 101]), (.str [99, 114, 111, 119, 100]), (.str [112, 117, 116]), (.str [119, 97, 105, 116]), (.str [105, 102]), (.str [101, 108, 115, 101]), (.str [101, 105, 116, 104, 101, 114]), (.str [111, 114]), (.str [108, 111, 111, 112]), (.str [108, 101, 97, 118, 101]), (.str [97, 103, 97, 105, 110]), (.str [115, 101, 116]), (.str [109, 111, 114, 101]), (.str [97, 115, 107]), (.str [108, 111, 111, 107]), (.str [116, 101, 108, 108]), (.str [109, 97, 114, 107]), (.str [100, 111]), (.str [115, 116, 111, 112]), (.str [101, 110, 100]), (.str [99, 108, 97, 105, 109])])), (0, (.str [97, 98, 99, 100, 101, 102, 103, 104, 105, 106, 107, 108, 109, 110, 111, 112, 113, 114, 115, 116, 117, 118, 119, 120, 121, 122])), (0, (.str [48, 49, 50, 51, 52, 53, 54, 55, 56, 57]))].map (·.2)
def kd : List KD := [((0 : Nat), [([112, 117, 116], (.tup [(.str [112, 108, 97, 99, 101]), (.str [110, 111, 116, 105, 99, 101])])), ([119, 97, 105, 116], (.tup [(.str [112, 108, 97, 99, 101]), (.str [110, 111, 116, 105, 99, 101])])), ([105, 102], (.tup [(.str [112, 108, 97, 99, 101]), (.str [110, 111, 116, 105, 99, 101]), (.str [116, 111])])), ([101, 105, 116, 104, 101, 114], (.tup [(.str [116, 111])])), ([103, 111], (.tup [(.str [116, 111])])), ([115, 101, 116], (.tup [(.str [110, 111, 116, 101]), (.str [110, 117, 109, 98, 101, 114])])), ([109, 111, 114, 101], (.tup [(.str [110, 111, 116, 101])])), ([97, 115, 107], (.tup [(.str [110, 111, 116, 101]), (.str [110, 117, 109, 98, 101, 114]), (.str [116, 111])])), ([108, 111, 111, 107], (.tup [(.str [110, 111, 116, 101]), (.str [112, 108, 97, 99, 101])])), ([116, 101, 108, 108], (.tup [(.str [112, 108, 97, 99, 101]), (.str [110, 111, 116, 101])])), ([109, 97, 114, 107], (.tup [(.str [109, 97, 114, 107])])), ([115, 116, 111, 112], (.tup []))])].map (·.2)
def PP : Pg := ⟨gl, kd, [e0, e1, e2, e3, e4, e5, e6, e7, e8, e9, e10, e11, e12, e13, e14, e15, e16, e17, e18, e19, e20, e21, e22, e23, e24, e25, e26, e27, e28]⟩
end K06
end partK06p

section partQ1
set_option linter.all false
set_option maxRecDepth 100000
/-! Q1: Mp step by step, for plain proofs. -/
namespace Mp
section
variable {gl : List PV} {kd : List KD} {F : FT} {G : Grd} {s : CS} {r a b : List CS} {σ σ1 : Env} {S S1 S2 : Sto} {v : EV} {c : CE}
theorem exL_nx (h : exS gl kd F G s σ S = .ok (.nx σ1) S1) : exL gl kd F G (s :: r) σ S = exL gl kd F G r σ1 S1 := by
  rw [exL, h]; rfl
theorem exL_rt (h : exS gl kd F G s σ S = .ok (.rt v) S1) : exL gl kd F G (s :: r) σ S = .ok (.rt v) S1 := by
  rw [exL, h]; rfl
theorem exL_ct (h : exS gl kd F G s σ S = .ok (.ct σ1) S1) : exL gl kd F G (s :: r) σ S = .ok (.ct σ1) S1 := by
  rw [exL, h]; rfl
theorem exL_bk (h : exS gl kd F G s σ S = .ok (.bk σ1) S1) : exL gl kd F G (s :: r) σ S = .ok (.bk σ1) S1 := by
  rw [exL, h]; rfl
theorem exS_ife {k : Bool} (h : tst gl kd F G c σ S = .ok k S1) : exS gl kd F G (.ife c a b) σ S = if k then exL gl kd F G a σ S1 else exL gl kd F G b σ S1 := by
  rw [exS, h]; rfl
theorem exS_frr {t : Tg} {it : CI} {w : Wk} (h : evI gl kd F G it σ S = .ok w S1) : exS gl kd F G (.frr t it b) σ S = forF G t (fun σ S => exL gl kd F { G with frz := w.frz ++ G.frz } b σ S) w.items σ S1 := by
  rw [exS, h]; rfl
theorem exS_whl : exS gl kd F G (.whl c b) σ S = whlF (fun σ S => tst gl kd F G c σ S) (fun σ S => exL gl kd F G b σ S) FUEL σ S := by
  rw [exS]
theorem exS_asg {t : Tg} {x : PV} (h : evP gl kd F G c σ S = .ok x S1) (h2 : asgT t x σ = some σ1) : exS gl kd F G (.asg t c) σ S = .ok (.nx σ1) S1 := by
  rw [exS, h, R.bind_ok, h2]
theorem exS_ret (h : evE gl kd F G c σ S = .ok v S1) : exS gl kd F G (.ret c) σ S = .ok (.rt v) S1 := by
  rw [exS, h, R.bind_ok]
theorem exS_exp (h : evE gl kd F G c σ S = .ok v S1) : exS gl kd F G (.exp c) σ S = .ok (.nx σ) S1 := by
  rw [exS, h, R.bind_ok]
theorem evP_val {x : PV} (h : evE gl kd F G c σ S = .ok (.val x) S1) : evP gl kd F G c σ S = .ok x S1 := by
  unfold evP
  rw [h]; rfl
theorem evP_tmp {o : PO} (h : evE gl kd F G c σ S = .ok (.tmp o) S1) : evP gl kd F G c σ S = .ok (.ref S1.length) (S1 ++ [o]) := by
  unfold evP
  rw [h]; rfl
theorem tst_of {k : Bool} (h : evE gl kd F G c σ S = .ok v S1) (h2 : tru v S1 = some k) : tst gl kd F G c σ S = .ok k S1 := by
  unfold tst
  rw [h, R.bind_ok, h2]; rfl
theorem forF_nil {t : Tg} {f : Env → Sto → R Fl} : forF G t f [] σ S = .ok (.nx σ) S := rfl
theorem forF_nx {t : Tg} {f : Env → Sto → R Fl} {x : PV} {xs : List PV} {σ2 : Env} (h1 : asgT t x σ = some σ1) (h2 : f σ1 S = .ok (.nx σ2) S1) : forF G t f (x :: xs) σ S = forF G t f xs σ2 S1 := by
  rw [forF, h1]
  dsimp only
  rw [h2]; rfl
theorem forF_ct {t : Tg} {f : Env → Sto → R Fl} {x : PV} {xs : List PV} {σ2 : Env} (h1 : asgT t x σ = some σ1) (h2 : f σ1 S = .ok (.ct σ2) S1) : forF G t f (x :: xs) σ S = forF G t f xs σ2 S1 := by
  rw [forF, h1]
  dsimp only
  rw [h2]; rfl
theorem forF_bk {t : Tg} {f : Env → Sto → R Fl} {x : PV} {xs : List PV} {σ2 : Env} (h1 : asgT t x σ = some σ1) (h2 : f σ1 S = .ok (.bk σ2) S1) : forF G t f (x :: xs) σ S = .ok (.nx σ2) S1 := by
  rw [forF, h1]
  dsimp only
  rw [h2]; rfl
theorem forF_rt {t : Tg} {f : Env → Sto → R Fl} {x : PV} {xs : List PV} (h1 : asgT t x σ = some σ1) (h2 : f σ1 S = .ok (.rt v) S1) : forF G t f (x :: xs) σ S = .ok (.rt v) S1 := by
  rw [forF, h1]
  dsimp only
  rw [h2]; rfl
theorem whlF_go {c : Env → Sto → R Bool} {b : Env → Sto → R Fl} {n : Nat} {σ2 : Env} (h1 : c σ S = .ok true S1) (h2 : b σ S1 = .ok (.nx σ2) S2) : whlF c b (n + 1) σ S = whlF c b n σ2 S2 := by
  rw [whlF, h1, R.bind_ok, if_pos rfl, h2]; rfl
theorem whlF_end {c : Env → Sto → R Bool} {b : Env → Sto → R Fl} {n : Nat} (h1 : c σ S = .ok false S1) : whlF c b (n + 1) σ S = .ok (.nx σ) S1 := by
  rw [whlF, h1, R.bind_ok, if_neg (by decide)]
/-- a comprehension whose turns leave the store alone -/
theorem lcF_pure {f : PV → Sto → R (Option PV)} {g : PV → Option PV} : ∀ {xs : List PV} {S : Sto}, (∀ x ∈ xs, f x S = .ok (g x) S) → lcF f xs S = .ok (xs.filterMap g) S
  | [], S, _ => rfl
  | x :: xs, S, h => by
    rw [lcF, h x List.mem_cons_self, R.bind_ok, lcF_pure (fun y hy => h y (List.mem_cons_of_mem _ hy)), R.bind_ok, List.filterMap_cons]
    cases g x <;> rfl
end
section
variable {gl : List PV} {kd : List KD} {F : FT} {G : Grd} {σ σ1 : Env} {S S1 S2 S3 : Sto} {x y v : EV} {a b d e : CE} {es : List CE}
theorem ev_var {i : Nat} {z : PV} (h : σ[i]? = some (some z)) : evE gl kd F G (.var i) σ S = .ok (.val z) S := by
  rw [evE, h]
theorem ev_cst {z : PV} : evE gl kd F G (.cst z) σ S = .ok (.val z) S := by
  rw [evE]
theorem ev_idx {z : PV} (h1 : evE gl kd F G a σ S = .ok x S1) (h2 : evE gl kd F G b σ S1 = .ok y S2) (h : idxE x y S2 = some z) : evE gl kd F G (.idx a b) σ S = .ok (.val z) S2 := by
  rw [evE, h1, R.bind_ok, h2, R.bind_ok, h]
theorem ev_bin {o : Bop} (h1 : evE gl kd F G a σ S = .ok x S1) (h2 : evE gl kd F G b σ S1 = .ok y S2) (h : binE o x y S2 = some v) : evE gl kd F G (.bin o a b) σ S = .ok v S2 := by
  rw [evE, h1, R.bind_ok, h2, R.bind_ok, h]; rfl
theorem ev_cmp {o : Cop} {k : Bool} (h1 : evE gl kd F G a σ S = .ok x S1) (h2 : evE gl kd F G b σ S1 = .ok y S2) (h : cmpE o x y S2 = some k) : evE gl kd F G (.cmp o a b) σ S = .ok (.val (.bl k)) S2 := by
  rw [evE, h1, R.bind_ok, h2, R.bind_ok, h]
theorem ev_not {k : Bool} (h1 : evE gl kd F G a σ S = .ok x S1) (h : tru x S1 = some k) : evE gl kd F G (.not a) σ S = .ok (.val (.bl (!k))) S1 := by
  rw [evE, h1, R.bind_ok, h]
theorem ev_andT (h1 : evE gl kd F G a σ S = .ok x S1) (h : tru x S1 = some true) : evE gl kd F G (.and a b) σ S = evE gl kd F G b σ S1 := by
  rw [evE, h1, R.bind_ok, h]; rfl
theorem ev_andF (h1 : evE gl kd F G a σ S = .ok x S1) (h : tru x S1 = some false) : evE gl kd F G (.and a b) σ S = .ok x S1 := by
  rw [evE, h1, R.bind_ok, h]; rfl
theorem ev_orT (h1 : evE gl kd F G a σ S = .ok x S1) (h : tru x S1 = some true) : evE gl kd F G (.or a b) σ S = .ok x S1 := by
  rw [evE, h1, R.bind_ok, h]; rfl
theorem ev_orF (h1 : evE gl kd F G a σ S = .ok x S1) (h : tru x S1 = some false) : evE gl kd F G (.or a b) σ S = evE gl kd F G b σ S1 := by
  rw [evE, h1, R.bind_ok, h]; rfl
theorem ev_iteT (h1 : evE gl kd F G d σ S = .ok x S1) (h : tru x S1 = some true) : evE gl kd F G (.ite d a b) σ S = evE gl kd F G a σ S1 := by
  rw [evE, h1, R.bind_ok, h]; rfl
theorem ev_iteF (h1 : evE gl kd F G d σ S = .ok x S1) (h : tru x S1 = some false) : evE gl kd F G (.ite d a b) σ S = evE gl kd F G b σ S1 := by
  rw [evE, h1, R.bind_ok, h]; rfl
theorem ev_call {f : Nat} {vs : List PV} (h : evL gl kd F G es σ S = .ok vs S1) : evE gl kd F G (.call f es) σ S = F G f vs S1 := by
  rw [evE, h, R.bind_ok]
theorem ev_callK {f : Nat} {ks : List CE} {perm : List Nat} {vs ws : List PV} (h : evL gl kd F G es σ S = .ok vs S1) (h2 : evL gl kd F G ks σ S1 = .ok ws S2) : evE gl kd F G (.callK f es ks perm) σ S = F G f (permL (vs ++ ws) perm) S2 := by
  rw [evE, h, R.bind_ok, h2, R.bind_ok]
theorem ev_tup {vs : List PV} (h : evL gl kd F G es σ S = .ok vs S1) (h2 : vs.length ≤ SZ) : evE gl kd F G (.tup es) σ S = .ok (.val (.tup vs)) S1 := by
  rw [evE, h, R.bind_ok, if_pos h2]
theorem ev_lst {vs : List PV} (h : evL gl kd F G es σ S = .ok vs S1) (h2 : vs.length ≤ SZ) : evE gl kd F G (.lst es) σ S = .ok (.tmp (.lst vs)) S1 := by
  rw [evE, h, R.bind_ok, if_pos h2]
theorem ev_blt {o : Blt} {vs : List EV} (h : evB gl kd F G es σ S = .ok vs S1) (h2 : bltE o vs S1 = some v) : evE gl kd F G (.blt o es) σ S = .ok v S1 := by
  rw [evE, h, R.bind_ok, h2]; rfl
theorem ev_mth {o : Mth} {vs : List PV} {k : Bool} (h : evE gl kd F G a σ S = .ok x S1) (hk : isLst x S1 = some k) (h1 : evL gl kd F G es σ S1 = .ok vs S2) (h2 : mthE G o x vs S2 = .ok v S3) : evE gl kd F G (.mth o a es) σ S = .ok v S3 := by
  rw [evE, h, R.bind_ok, hk]
  dsimp only
  rw [h1, R.bind_ok, h2]
theorem ev_ext {k : Bool} (h : evE gl kd F G a σ S = .ok x S1) (hk : isLst x S1 = some k) (h1 : evE gl kd F G b σ S1 = .ok y S2) (h2 : extE G x y S2 = .ok v S3) : evE gl kd F G (.ext a b) σ S = .ok v S3 := by
  rw [evE, h, R.bind_ok, hk]
  dsimp only
  rw [h1, R.bind_ok, h2]
theorem ev_isi {t : Ty} {k : Bool} (h : evE gl kd F G a σ S = .ok x S1) (hk : isTy x S1 t = some k) : evE gl kd F G (.isi a t) σ S = .ok (.val (.bl k)) S1 := by
  rw [evE, h, R.bind_ok, hk]
theorem ev_slc {lo hi : Option CE} {l h : Option Int} (h0 : evE gl kd F G a σ S = .ok x S1) (h1 : evO gl kd F G lo σ S1 = .ok l S2) (h2 : evO gl kd F G hi σ S2 = .ok h S3) (h3 : slcE x l h S3 = some v) : evE gl kd F G (.slc a lo hi) σ S = .ok v S3 := by
  rw [evE, h0, R.bind_ok, h1, R.bind_ok, h2, R.bind_ok, h3]; rfl
/-- a comprehension: what a turn gives -/
def lcB (gl : List PV) (kd : List KD) (F : FT) (G : Grd) (e : CE) (t : Tg) (ifs : List CE) (σ : Env) : PV → Sto → R (Option PV) := fun x S2 => match asgT t x σ with
  | none => .err
  | some σ1 => (evT gl kd F G ifs σ1 S2).bind fun k S3 => if k then ((evE gl kd F G e σ1 S3).bind mat).bind fun v S4 => .ok (some v) S4 else .ok none S3
theorem ev_lc {t : Tg} {it : CI} {ifs : List CE} {own : List Nat} {w : Wk} {vs : List PV} (h : evI gl kd F G it σ S = .ok w S1) (h1 : lcF (lcB gl kd F { G with frz := w.frz ++ G.frz } e t ifs (wipeE σ own)) w.items S1 = .ok vs S2) (h2 : vs.length ≤ SZ) :
    evE gl kd F G (.lc e t it ifs own) σ S = .ok (.tmp (.lst vs)) S2 := by
  rw [evE, h, R.bind_ok]
  show ((lcF (lcB gl kd F { G with frz := w.frz ++ G.frz } e t ifs (wipeE σ own)) w.items S1).bind fun vs S2 => if vs.length ≤ SZ then R.ok (EV.tmp (PO.lst vs)) S2 else .err) = _
  rw [h1, R.bind_ok, if_pos h2]
theorem lcB_no {t : Tg} {ifs : List CE} {z : PV} (h1 : asgT t z σ = some σ1) (h2 : evT gl kd F G ifs σ1 S = .ok false S1) : lcB gl kd F G e t ifs σ z S = .ok none S1 := by
  unfold lcB
  rw [h1]
  dsimp only
  rw [h2]; rfl
theorem lcB_yes {t : Tg} {ifs : List CE} {z u : PV} (h1 : asgT t z σ = some σ1) (h2 : evT gl kd F G ifs σ1 S = .ok true S1) (h3 : evE gl kd F G e σ1 S1 = .ok (.val u) S2) : lcB gl kd F G e t ifs σ z S = .ok (some u) S2 := by
  unfold lcB
  rw [h1]
  dsimp only
  rw [h2, R.bind_ok, if_pos rfl, h3]; rfl
theorem evT_nil : evT gl kd F G [] σ S = .ok true S := by rw [evT]
theorem evT_one {k : Bool} (h : evE gl kd F G e σ S = .ok x S1) (hk : tru x S1 = some k) : evT gl kd F G [e] σ S = .ok k S1 := by
  rw [evT, h, R.bind_ok, hk]
  cases k
  · rfl
  · show evT gl kd F G [] σ S1 = _
    rw [evT]
theorem evL_nil : evL gl kd F G [] σ S = .ok [] S := by rw [evL]
theorem evL_val {z : PV} {zs : List PV} (h : evE gl kd F G e σ S = .ok (.val z) S1) (h2 : evL gl kd F G es σ S1 = .ok zs S2) : evL gl kd F G (e :: es) σ S = .ok (z :: zs) S2 := by
  rw [evL, h, R.bind_ok]
  show ((R.ok z S1).bind fun v S1 => (evL gl kd F G es σ S1).bind fun vs S2 => R.ok (v :: vs) S2) = _
  rw [R.bind_ok, h2, R.bind_ok]
theorem evL_tmp {o : PO} {zs : List PV} (h : evE gl kd F G e σ S = .ok (.tmp o) S1) (h2 : evL gl kd F G es σ (S1 ++ [o]) = .ok zs S2) : evL gl kd F G (e :: es) σ S = .ok (.ref S1.length :: zs) S2 := by
  rw [evL, h, R.bind_ok]
  show ((R.ok (PV.ref S1.length) (S1 ++ [o])).bind fun v S1 => (evL gl kd F G es σ S1).bind fun vs S2 => R.ok (v :: vs) S2) = _
  rw [R.bind_ok, h2, R.bind_ok]
theorem evB_nil : evB gl kd F G [] σ S = .ok [] S := by rw [evB]
theorem evB_cons {zs : List EV} (h : evE gl kd F G e σ S = .ok x S1) (h2 : evB gl kd F G es σ S1 = .ok zs S2) : evB gl kd F G (e :: es) σ S = .ok (x :: zs) S2 := by
  rw [evB, h, R.bind_ok, h2, R.bind_ok]
theorem ev_blt1 {o : Blt} (h : evE gl kd F G e σ S = .ok x S1) (h2 : bltE o [x] S1 = some v) : evE gl kd F G (.blt o [e]) σ S = .ok v S1 := ev_blt (evB_cons h evB_nil) h2
theorem evI_exp {w : Wk} (h : evE gl kd F G e σ S = .ok x S1) (h2 : wkE x S1 = some w) : evI gl kd F G (.exp e) σ S = .ok w S1 := by
  rw [evI, h, R.bind_ok, h2]; rfl
theorem evI_rng1 {j : Int} {w : Wk} (h : evE gl kd F G e σ S = .ok (.val (.int j)) S1) (h2 : rngW 0 j = some w) : evI gl kd F G (.rng1 e) σ S = .ok w S1 := by
  rw [evI, h, R.bind_ok]
  dsimp only
  rw [h2]; rfl
theorem evI_enum {k : Bool} {w : Wk} (h : evE gl kd F G e σ S = .ok x S1) (h2 : seqW x S1 = some (k, w)) : evI gl kd F G (.enum e) σ S = .ok ⟨enumL 0 w.items, w.frz⟩ S1 := by
  rw [evI, h, R.bind_ok, h2]
end
/-- a def that runs in a store of its own -/
theorem call_own {P : Pg} {k i : Nat} {d : Def} {vs : List PV} {G : Grd} {S S' : Sto} {v v' : EV} (hd : P.ds[i]? = some d) (hn : vs.length = d.np) (hm : d.md = 0) (hb : PV.belL 0 vs = true)
    (h : exL P.gl P.kd (callF P k) ⟨0, []⟩ d.body (startE d.ns vs) [] = .ok (.rt v) S') (hl : leave 0 v S S' = .ok v' S) : callF P (k + 1) G i vs S = .ok v' S := by
  show (match P.ds[i]? with
    | some d => enter P.gl P.kd (callF P k) G d vs S
    | none => .err) = _
  rw [hd]
  dsimp only
  unfold enter
  rw [if_pos hn, if_pos hm, if_pos hb, h]
  exact hl
theorem call_raw {P : Pg} {k i : Nat} {d : Def} {vs : List PV} {G : Grd} {S S' : Sto} {v : EV} (hd : P.ds[i]? = some d) (hn : vs.length = d.np) (hm : d.md = 2)
    (h : exL P.gl P.kd (callF P k) G d.body (startE d.ns vs) S = .ok (.rt v) S') : callF P (k + 1) G i vs S = .ok v S' := by
  show (match P.ds[i]? with
    | some d => enter P.gl P.kd (callF P k) G d vs S
    | none => .err) = _
  rw [hd]
  dsimp only
  unfold enter
  rw [if_pos hn, if_neg (by rw [hm]; decide), if_neg (by rw [hm]; decide), h, hm]
  rfl
theorem belL_map {α : Type} {n : Nat} {f : α → PV} (h : ∀ x, (f x).bel n = true) : ∀ xs : List α, PV.belL n (xs.map f) = true
  | [] => rfl
  | x :: xs => Bool.and_eq_true_iff.mpr ⟨h x, belL_map h xs⟩
theorem pyIdx_nat {α : Type} {xs : List α} {i : Nat} {x : α} (h : xs[i]? = some x) : pyIdx xs (i : Nat) = some x := by
  have hl := (List.getElem?_eq_some_iff.mp h).1
  unfold pyIdx pyPos
  rw [if_pos (by omega), if_pos (by omega)]
  show xs[((i : Nat) : Int).toNat]? = some x
  rw [Int.toNat_natCast]
  exact h
/-! #### numbers -/
def nI (n : Nat) : PV := .int n
def insN (i : Nat) : List Nat → List Nat
  | [] => [i]
  | j :: r => if i ≤ j then i :: j :: r else j :: insN i r
def sortN : List Nat → List Nat
  | [] => []
  | i :: r => insN i (sortN r)
theorem insN_cast (i : Nat) : ∀ l : List Nat, insI (Int.ofNat i) (l.map Int.ofNat) = (insN i l).map Int.ofNat
  | [] => rfl
  | j :: r => by
    rw [List.map_cons]
    unfold insI insN
    by_cases h : i ≤ j
    · rw [if_pos h, if_pos (show Int.ofNat i ≤ Int.ofNat j from Int.ofNat_le.mpr h)]; rfl
    · have h2 : ¬ (Int.ofNat i ≤ Int.ofNat j) := fun z => h (Int.ofNat_le.mp z)
      rw [if_neg h, if_neg h2, List.map_cons, insN_cast i r]
theorem sortN_cast : ∀ l : List Nat, sortI (l.map Int.ofNat) = (sortN l).map Int.ofNat
  | [] => rfl
  | i :: r => by
    rw [List.map_cons]
    unfold sortI sortN
    rw [sortN_cast r, insN_cast]
theorem allInts_nat : ∀ l : List Nat, allInts (l.map nI) = some (l.map Int.ofNat)
  | [] => rfl
  | i :: r => by
    rw [List.map_cons]
    show (allInts (r.map nI)).map _ = _
    rw [allInts_nat r]; rfl
theorem nI_bel (n i : Nat) : (nI n).bel i = true := rfl
theorem nI_belL (l : List Nat) (n : Nat) : PV.belL n (l.map nI) = true := belL_map (fun x => nI_bel x n) l
theorem nI_depL : ∀ l : List Nat, PV.depL (l.map nI) = 0
  | [] => rfl
  | i :: r => by
    show max 0 (PV.depL (r.map nI)) = 0
    rw [nI_depL r]; rfl
theorem nI_eqv (i j : Nat) : PV.eqv (nI i) (nI j) = decide (i = j) := by
  show ((i : Int) == (j : Int)) = _
  by_cases h : i = j
  · subst h; simp
  · have : ¬ (i : Int) = (j : Int) := by omega
    rw [decide_eq_false h, beq_eq_false_iff_ne.mpr this]
theorem nI_any (j : Nat) : ∀ l : List Nat, ((l.map nI).any fun y => PV.eqv y (nI j)) = decide (j ∈ l)
  | [] => rfl
  | i :: r => by
    rw [List.map_cons, List.any_cons, nI_any j r, nI_eqv]
    by_cases h : i = j
    · subst h; simp
    · by_cases h2 : j ∈ r
      · simp [h2]
      · have : ¬ j = i := fun e => h e.symm
        simp [h, h2, this]
/-- j in xs, xs a tuple or a list of numbers -/
theorem in_nats {x : EV} {S : Sto} {l : List Nat} {j : Nat} (h : itT x S = some (l.map nI)) (hx : ∀ s, x ≠ .val (.str s)) : inE (.val (nI j)) x S = some (decide (j ∈ l)) := by
  unfold inE
  dsimp only
  split
  · exact absurd rfl (hx _)
  · rw [h]
    dsimp only
    rw [if_pos ⟨rfl, nI_belL l 0, by show 0 ≤ 60; decide, by rw [nI_depL]; decide⟩, nI_any]
theorem sorted_nats {x : EV} {S : Sto} {l : List Nat} (h : itL x S = some (l.map nI)) : bltE .sorted [x] S = some (.tmp (.lst ((sortN l).map nI))) := by
  show bSorted S x = _
  unfold bSorted
  rw [h]
  dsimp only
  rw [allInts_nat, Option.map_some, sortN_cast, List.map_map]
  rfl
theorem eq_nats {S : Sto} (i j : Nat) : eqE (.val (nI i)) (.val (nI j)) S = some (decide (i = j)) := by
  show (if (0 ≤ 60 ∧ 0 ≤ 60) then some (if false = false then PV.eqv (nI i) (nI j) else false) else none) = _
  rw [if_pos ⟨by decide, by decide⟩, if_pos rfl, nI_eqv]
theorem upI_nat (n : Nat) : upI 0 n = (List.range' 0 n).map nI := by
  unfold upI
  rw [List.range_eq_range']
  refine List.map_congr_left fun i _ => ?_
  rw [Int.zero_add]
  rfl
theorem rngW_nat {n : Nat} (h : n ≤ SZ) : rngW 0 (Int.ofNat n) = some ⟨(List.range' 0 n).map nI, []⟩ := by
  have hz : SZ = 16777216 := rfl
  unfold rngW
  have e : (Int.ofNat n - 0).toNat = n := by simp
  rw [e, upI_nat, if_pos ⟨by decide, by decide, by simp only [Int.ofNat_eq_natCast]; omega, by simp only [Int.ofNat_eq_natCast]; omega, h⟩]
theorem filter_nats {p : Nat → Bool} {g : PV → Option PV} (hg : ∀ b, g (nI b) = if p b then some (nI b) else none) : ∀ l : List Nat, (l.map nI).filterMap g = (l.filter p).map nI
  | [] => rfl
  | b :: r => by
    rw [List.map_cons, List.filterMap_cons, List.filter_cons, hg, filter_nats hg r]
    cases p b <;> rfl
theorem lcF_gen {α : Type} {f : PV → Sto → R (Option PV)} {h : α → PV} {g : α → Option PV} {S : Sto} : ∀ {xs : List α}, (∀ x ∈ xs, f (h x) S = .ok (g x) S) → lcF f (xs.map h) S = .ok (xs.filterMap g) S
  | [], _ => rfl
  | x :: xs, hf => by
    rw [List.map_cons, lcF, hf x List.mem_cons_self, R.bind_ok, lcF_gen (fun y hy => hf y (List.mem_cons_of_mem _ hy)), R.bind_ok, List.filterMap_cons]
    cases g x <;> rfl
theorem ev_lcG {α : Type} {gl : List PV} {kd : List KD} {F : FT} {G : Grd} {σ : Env} {S S1 : Sto} {e : CE} {t : Tg} {it : CI} {ifs : List CE} {own : List Nat} {xs : List α} {h : α → PV} {g : α → Option PV} {fr : List Nat}
    (hi : evI gl kd F G it σ S = .ok ⟨xs.map h, fr⟩ S1) (hb : ∀ x ∈ xs, lcB gl kd F { G with frz := fr ++ G.frz } e t ifs (wipeE σ own) (h x) S1 = .ok (g x) S1) (hl : xs.length ≤ SZ) :
    evE gl kd F G (.lc e t it ifs own) σ S = .ok (.tmp (.lst (xs.filterMap g))) S1 :=
  ev_lc hi (lcF_gen hb) (Nat.le_trans (List.length_filterMap_le g xs) hl)
/-- one test, the element the variable itself -/
theorem lcB_if {gl : List PV} {kd : List KD} {F : FT} {G : Grd} {σ σ1 : Env} {S : Sto} {e test : CE} {t : Tg} {z : PV} {b : Bool} {u : PV} (h1 : asgT t z σ = some σ1) (h2 : evE gl kd F G test σ1 S = .ok (.val (.bl b)) S) (h3 : b = true → evE gl kd F G e σ1 S = .ok (.val u) S) :
    lcB gl kd F G e t [test] σ z S = .ok (if b then some u else none) S := by
  cases b with
  | false => exact lcB_no h1 (evT_one h2 rfl)
  | true => exact lcB_yes h1 (evT_one h2 rfl) (h3 rfl)
theorem lcB_all {gl : List PV} {kd : List KD} {F : FT} {G : Grd} {σ σ1 : Env} {S : Sto} {e : CE} {t : Tg} {z u : PV} (h1 : asgT t z σ = some σ1) (h3 : evE gl kd F G e σ1 S = .ok (.val u) S) : lcB gl kd F G e t [] σ z S = .ok (some u) S := lcB_yes h1 evT_nil h3
theorem filterMap_if {α : Type} {p : α → Bool} {f : α → PV} : ∀ l : List α, (l.filterMap fun x => if p x then some (f x) else none) = (l.filter p).map f
  | [] => rfl
  | x :: r => by
    rw [List.filterMap_cons, List.filter_cons, filterMap_if r]
    cases p x <;> rfl
theorem get_new {S : Sto} {o : PO} : (S ++ [o])[S.length]? = some o := by simp
theorem get_old {S : Sto} {o u : PO} {l : Nat} (h : S[l]? = some u) : (S ++ [o])[l]? = some u := by
  rw [List.getElem?_append_left (List.getElem?_eq_some_iff.mp h).1, h]
theorem sub_one {n : Nat} (h : 0 < n) : (.int (Int.ofNat n - 1) : PV) = nI (n - 1) := by
  show PV.int _ = PV.int _
  congr 1
  simp only [Int.ofNat_eq_natCast]
  omega
theorem len_tup {S : Sto} (xs : List PV) : bltE .len [.val (.tup xs)] S = some (.val (nI xs.length)) := rfl
theorem len_lst {S : Sto} {l : Nat} {xs : List PV} (h : S[l]? = some (.lst xs)) : bltE .len [.val (.ref l)] S = some (.val (nI xs.length)) := by
  simp only [bltE, one, bLen, itT, itL, h]
  rfl
theorem idx_lst {S : Sto} {l i : Nat} {xs : List PV} {x : PV} (h : S[l]? = some (.lst xs)) (hx : xs[i]? = some x) : idxE (.val (.ref l)) (.val (nI i)) S = some x := by
  simp only [idxE, itT, itL, h, nI]
  exact pyIdx_nat hx
theorem idx_tup {S : Sto} {i : Nat} {xs : List PV} {x : PV} (hx : xs[i]? = some x) : idxE (.val (.tup xs)) (.val (nI i)) S = some x := pyIdx_nat hx
end Mp
end partQ1

section partK06m
set_option linter.all false
set_option maxRecDepth 100000
/-! K06m: codes, what is reached, what is short. No Mp here but sortN. -/
namespace K06
open Mp
inductive Cmd where
  | put | put2 | wait | wait1 | stop | mark | set | look | iff (t : Nat) | either (t : Nat) | ask (t : Nat) | go (t : Nat)
  deriving DecidableEq
def Cmd.to : Cmd → Option Nat
  | .iff t => some t
  | .either t => some t
  | .ask t => some t
  | .go t => some t
  | _ => none
def Cmd.fin : Cmd → Bool
  | .stop => true
  | .go _ => true
  | _ => false
/-- led to elsewhere -/
def Cmd.via (f : Nat → Nat) : Cmd → Cmd
  | .iff t => .iff (f t)
  | .either t => .either (f t)
  | .ask t => .ask (f t)
  | .go t => .go (f t)
  | c => c
theorem Cmd.via_to (f : Nat → Nat) (c : Cmd) : (c.via f).to = c.to.map f := by cases c <;> rfl
theorem Cmd.via_fin (f : Nat → Nat) (c : Cmd) : (c.via f).fin = c.fin := by cases c <;> rfl
theorem Cmd.via_id {f : Nat → Nat} {c : Cmd} (h : ∀ t, c.to = some t → f t = t) : c.via f = c := by
  cases c <;> first | rfl | (show Cmd.iff _ = _; rw [h _ rfl]) | (show Cmd.either _ = _; rw [h _ rfl]) | (show Cmd.ask _ = _; rw [h _ rfl]) | (show Cmd.go _ = _; rw [h _ rfl])
/-- what may come behind the command at a -/
def nxt (a : Nat) (c : Cmd) : List Nat :=
  match c.to with
  | none => if c.fin then [] else [a + 1]
  | some t => if c.fin then [t] else if a + 1 = t then [t] else if a + 1 ≤ t then [a + 1, t] else [t, a + 1]
theorem mem_nxt {a b : Nat} {c : Cmd} : b ∈ nxt a c ↔ (c.fin = false ∧ b = a + 1) ∨ c.to = some b := by
  unfold nxt
  cases ht : c.to with
  | none =>
    dsimp only
    cases hf : c.fin <;> simp
  | some t =>
    dsimp only
    cases hf : c.fin
    · simp only [Bool.false_eq_true, if_false]
      split
      · rename_i h
        simp only [List.mem_singleton, Option.some.injEq]
        constructor
        · intro h; exact .inr h.symm
        · rintro (⟨_, h⟩ | h) <;> omega
      · split <;> simp only [List.mem_cons, List.not_mem_nil, or_false, Option.some.injEq] <;> constructor
        · rintro (h | h)
          · exact .inl ⟨trivial, h⟩
          · exact .inr h.symm
        · rintro (⟨_, h⟩ | h)
          · exact .inl h
          · exact .inr h.symm
        · rintro (h | h)
          · exact .inr h.symm
          · exact .inl ⟨trivial, h⟩
        · rintro (⟨_, h⟩ | h)
          · exact .inr h
          · exact .inl h.symm
    · simp only [if_true, List.mem_singleton, Option.some.injEq, Bool.true_eq_false, false_and, false_or]
      exact eq_comm
theorem nxt_nodup (a : Nat) (c : Cmd) : (nxt a c).Nodup := by
  unfold nxt
  repeat' split
  · simp
  · simp
  · simp
  · simp
  · rename_i h _
    simp only [List.nodup_cons, List.mem_singleton, List.not_mem_nil, not_false_eq_true, List.nodup_nil, and_self, and_true]
    exact h
  · rename_i h _
    simp only [List.nodup_cons, List.mem_singleton, List.not_mem_nil, not_false_eq_true, List.nodup_nil, and_self, and_true]
    exact fun z => h z.symm
structure OkC (cs : List Cmd) : Prop where
  pos : 0 < cs.length
  to : ∀ (a : Nat) (c : Cmd), cs[a]? = some c → ∀ t, c.to = some t → t < cs.length
  last : ∀ (a : Nat) (c : Cmd), cs[a]? = some c → a + 1 = cs.length → c.fin = true
inductive Reach (cs : List Cmd) : Nat → Prop
  | zero : Reach cs 0
  | step {a b : Nat} {c : Cmd} : Reach cs a → cs[a]? = some c → b ∈ nxt a c → Reach cs b
theorem OkC.nxt {cs : List Cmd} (ok : OkC cs) {a b : Nat} {c : Cmd} (h : cs[a]? = some c) (hb : b ∈ K06.nxt a c) : b < cs.length := by
  rcases mem_nxt.mp hb with ⟨h1, rfl⟩ | h1
  · have hl := (List.getElem?_eq_some_iff.mp h).1
    by_cases e : a + 1 = cs.length
    · rw [ok.last a c h e] at h1; cases h1
    · omega
  · exact ok.to a c h b h1
theorem OkC.reach {cs : List Cmd} (ok : OkC cs) {a : Nat} (h : Reach cs a) : a < cs.length := by
  cases h with
  | zero => exact ok.pos
  | step h1 h2 h3 => exact ok.nxt h2 h3
/-- the list of what is reached, ascending -/
structure Kept (cs : List Cmd) (R : List Nat) : Prop where
  sorted : R.Pairwise (· < ·)
  mem : ∀ x, x ∈ R ↔ Reach cs x
theorem asc_unique : ∀ {l1 l2 : List Nat}, l1.Pairwise (· < ·) → l2.Pairwise (· < ·) → (∀ x, x ∈ l1 ↔ x ∈ l2) → l1 = l2
  | [], [], _, _, _ => rfl
  | [], b :: r, _, _, h => by have := (h b).mpr List.mem_cons_self; cases this
  | a :: r, [], _, _, h => by have := (h a).mp List.mem_cons_self; cases this
  | a :: r, b :: s, h1, h2, h => by
    have h1' := List.pairwise_cons.mp h1
    have h2' := List.pairwise_cons.mp h2
    have e : a = b := by
      have q1 := (h a).mp List.mem_cons_self
      have q2 := (h b).mpr List.mem_cons_self
      rcases List.mem_cons.mp q1 with q1 | q1
      · exact q1
      · rcases List.mem_cons.mp q2 with q2 | q2
        · exact q2.symm
        · have := h2'.1 a q1
          have := h1'.1 b q2
          omega
    subst e
    congr 1
    refine asc_unique h1'.2 h2'.2 fun x => ?_
    constructor
    · intro hx
      rcases List.mem_cons.mp ((h x).mp (List.mem_cons_of_mem _ hx)) with q | q
      · subst q; exact absurd (h1'.1 x hx) (Nat.lt_irrefl _)
      · exact q
    · intro hx
      rcases List.mem_cons.mp ((h x).mpr (List.mem_cons_of_mem _ hx)) with q | q
      · subst q; exact absurd (h2'.1 x hx) (Nat.lt_irrefl _)
      · exact q
theorem Kept.unique {cs : List Cmd} {R R' : List Nat} (h : Kept cs R) (h' : Kept cs R') : R = R' := asc_unique h.sorted h'.sorted fun x => (h.mem x).trans (h'.mem x).symm
theorem insN_mem {i x : Nat} : ∀ {l : List Nat}, x ∈ insN i l ↔ x = i ∨ x ∈ l
  | [] => by simp [insN]
  | j :: r => by
    unfold insN
    split
    · simp
    · simp only [List.mem_cons, insN_mem (l := r)]
      constructor
      · rintro (h | h | h)
        · exact .inr (.inl h)
        · exact .inl h
        · exact .inr (.inr h)
      · rintro (h | h | h)
        · exact .inr (.inl h)
        · exact .inl h
        · exact .inr (.inr h)
theorem insN_asc {i : Nat} : ∀ {l : List Nat}, l.Pairwise (· < ·) → i ∉ l → (insN i l).Pairwise (· < ·)
  | [], _, _ => by simp [insN]
  | j :: r, h, hn => by
    have h' := List.pairwise_cons.mp h
    have hj : i ≠ j := fun e => hn (by simp [e])
    have hr : i ∉ r := fun e => hn (by simp [e])
    unfold insN
    split
    · refine List.pairwise_cons.mpr ⟨fun x hx => ?_, h⟩
      rcases List.mem_cons.mp hx with rfl | hx
      · omega
      · have := h'.1 x hx; omega
    · refine List.pairwise_cons.mpr ⟨fun x hx => ?_, insN_asc h'.2 hr⟩
      rcases insN_mem.mp hx with rfl | hx
      · omega
      · exact h'.1 x hx
theorem sortN_mem {x : Nat} : ∀ {l : List Nat}, x ∈ sortN l ↔ x ∈ l
  | [] => by simp [sortN]
  | i :: r => by
    unfold sortN
    rw [insN_mem, sortN_mem, List.mem_cons]
theorem sortN_asc : ∀ {l : List Nat}, l.Nodup → (sortN l).Pairwise (· < ·)
  | [], _ => .nil
  | i :: r, h => by
    have h' := List.nodup_cons.mp h
    unfold sortN
    exact insN_asc (sortN_asc h'.2) fun z => h'.1 (sortN_mem.mp z)
theorem kept_of {cs : List Cmd} {l : List Nat} (hn : l.Nodup) (h : ∀ x, x ∈ l ↔ Reach cs x) : Kept cs (sortN l) := ⟨sortN_asc hn, fun x => sortN_mem.trans (h x)⟩
/-- closed, from 0 on: that is what is reached -/
theorem closed_reach {cs : List Cmd} {l : List Nat} (h0 : 0 ∈ l) (hr : ∀ x ∈ l, Reach cs x) (hc : ∀ a ∈ l, ∀ c, cs[a]? = some c → ∀ b ∈ nxt a c, b ∈ l) : ∀ x, x ∈ l ↔ Reach cs x := fun x => by
  refine ⟨hr x, fun h => ?_⟩
  induction h with
  | zero => exact h0
  | step _ h2 h3 ih => exact hc _ ih _ h2 _ h3
/-! #### renumbered -/
def cnt (R : List Nat) (t : Nat) : Nat := (R.filter fun x => decide (x < t)).length
theorem cnt_cons (a : Nat) (R : List Nat) (t : Nat) : cnt (a :: R) t = (if a < t then 1 else 0) + cnt R t := by
  unfold cnt
  rw [List.filter_cons]
  by_cases h : a < t
  · rw [if_pos (by simpa using h), if_pos h, List.length_cons]; omega
  · rw [if_neg (by simpa using h), if_neg h]; omega
theorem cnt_zero {R : List Nat} {t : Nat} (h : ∀ x ∈ R, t ≤ x) : cnt R t = 0 := by
  induction R with
  | nil => rfl
  | cons a R ih =>
    rw [cnt_cons, if_neg (by have := h a List.mem_cons_self; omega), ih fun x hx => h x (List.mem_cons_of_mem _ hx)]
theorem cnt_get : ∀ {R : List Nat}, R.Pairwise (· < ·) → ∀ {i t : Nat}, R[i]? = some t → cnt R t = i
  | [], _, _, _, h => by simp at h
  | a :: R, hp, 0, t, h => by
    simp at h
    subst h
    rw [cnt_cons, if_neg (Nat.lt_irrefl _), cnt_zero fun x hx => Nat.le_of_lt ((List.pairwise_cons.mp hp).1 x hx)]
  | a :: R, hp, i + 1, t, h => by
    have h' : R[i]? = some t := by simpa using h
    have := (List.pairwise_cons.mp hp).1 t (List.mem_of_getElem? h')
    rw [cnt_cons, if_pos this, cnt_get (List.pairwise_cons.mp hp).2 h']
    omega
theorem cnt_at {R : List Nat} (hp : R.Pairwise (· < ·)) {t : Nat} (h : t ∈ R) : R[cnt R t]? = some t := by
  obtain ⟨i, hi⟩ := List.mem_iff_getElem?.mp h
  rw [cnt_get hp hi]
  exact hi
theorem cnt_lt {R : List Nat} (hp : R.Pairwise (· < ·)) {t : Nat} (h : t ∈ R) : cnt R t < R.length := (List.getElem?_eq_some_iff.mp (cnt_at hp h)).1
theorem cnt_succ {R : List Nat} (hp : R.Pairwise (· < ·)) {t : Nat} (h : t ∈ R) : cnt R (t + 1) = cnt R t + 1 := by
  induction R with
  | nil => cases h
  | cons a R ih =>
    have hp' := List.pairwise_cons.mp hp
    rw [cnt_cons, cnt_cons]
    rcases List.mem_cons.mp h with rfl | h
    · rw [if_pos (Nat.lt_succ_self _), if_neg (Nat.lt_irrefl _), cnt_zero fun x hx => hp'.1 x hx, cnt_zero fun x hx => Nat.le_of_lt (hp'.1 x hx)]
    · have := hp'.1 t h
      rw [if_pos (by omega), if_pos this, ih hp'.2 h]
      omega
theorem cnt_range {n t : Nat} (h : t ≤ n) : cnt (List.range n) t = t := by
  by_cases e : t < n
  · have hp : (List.range n).Pairwise (· < ·) := List.pairwise_lt_range
    exact cnt_get hp (by rw [List.getElem?_range e])
  · have : t = n := by omega
    subst this
    unfold cnt
    rw [List.filter_eq_self.mpr fun a ha => by simpa using ha, List.length_range]
/-- the kept commands, led anew -/
def led1 (cs : List Cmd) (R : List Nat) : List Cmd := R.filterMap fun a => (cs[a]?).map fun c => c.via (cnt R)
theorem led1_eq {cs : List Cmd} {R : List Nat} (h : ∀ x ∈ R, x < cs.length) : ∀ {f : Nat → Nat} {R' : List Nat}, (∀ x ∈ R', x ∈ R) → (R'.filterMap fun a => (cs[a]?).map fun c => c.via f).length = R'.length ∧ ∀ (i a : Nat), R'[i]? = some a → (R'.filterMap fun a => (cs[a]?).map fun c => c.via f)[i]? = (cs[a]?).map (Cmd.via f)
  | f, [], _ => ⟨rfl, fun i a h => by simp at h⟩
  | f, x :: r, hs => by
    obtain ⟨h1, h2⟩ := led1_eq (f := f) h (R' := r) fun y hy => hs y (List.mem_cons_of_mem _ hy)
    have hx := h x (hs x List.mem_cons_self)
    rw [List.filterMap_cons, List.getElem?_eq_getElem hx]
    refine ⟨congrArg (· + 1) h1, fun i a hi => ?_⟩
    cases i with
    | zero =>
      simp at hi
      subst hi
      rw [List.getElem?_eq_getElem hx]
      rfl
    | succ i =>
      have := h2 i a (by simpa using hi)
      simpa using this
section
variable {cs : List Cmd} {R : List Nat}
theorem Kept.lt (ok : OkC cs) (k : Kept cs R) : ∀ x ∈ R, x < cs.length := fun x hx => ok.reach ((k.mem x).mp hx)
theorem led1_len (ok : OkC cs) (k : Kept cs R) : (led1 cs R).length = R.length := (led1_eq (k.lt ok) fun _ h => h).1
theorem led1_get (ok : OkC cs) (k : Kept cs R) {a : Nat} {c : Cmd} (ha : a ∈ R) (hc : cs[a]? = some c) : (led1 cs R)[cnt R a]? = some (c.via (cnt R)) := by
  rw [led1, (led1_eq (f := cnt R) (k.lt ok) fun _ h => h).2 _ a (cnt_at k.sorted ha), hc]
  rfl
theorem led1_inv (ok : OkC cs) (k : Kept cs R) {i : Nat} {d : Cmd} (h : (led1 cs R)[i]? = some d) : ∃ a c, R[i]? = some a ∧ cs[a]? = some c ∧ d = c.via (cnt R) := by
  have hi := (List.getElem?_eq_some_iff.mp h).1
  rw [led1_len ok k] at hi
  have ha := List.getElem?_eq_getElem hi
  have hlt := k.lt ok _ (List.getElem_mem hi)
  have e := (led1_eq (f := cnt R) (k.lt ok) fun _ h => h).2 i _ ha
  rw [led1, e, List.getElem?_eq_getElem hlt] at h
  exact ⟨_, _, ha, List.getElem?_eq_getElem hlt, (Option.some.inj h).symm⟩
theorem led1_ok (ok : OkC cs) (k : Kept cs R) : OkC (led1 cs R) := by
  have zero : 0 ∈ R := (k.mem 0).mpr .zero
  refine ⟨by rw [led1_len ok k]; exact List.length_pos_of_mem zero, fun i d hd t ht => ?_, fun i d hd hi => ?_⟩
  · obtain ⟨a, c, h1, h2, rfl⟩ := led1_inv ok k hd
    rw [Cmd.via_to, Option.map_eq_some_iff] at ht
    obtain ⟨u, hu, rfl⟩ := ht
    rw [led1_len ok k]
    exact cnt_lt k.sorted ((k.mem u).mpr (.step ((k.mem a).mp (List.mem_of_getElem? h1)) h2 (mem_nxt.mpr (.inr hu))))
  · obtain ⟨a, c, h1, h2, rfl⟩ := led1_inv ok k hd
    rw [Cmd.via_fin]
    cases hf : c.fin with
    | true => rfl
    | false =>
      have ha := List.mem_of_getElem? h1
      have hb : a + 1 ∈ R := (k.mem _).mpr (.step ((k.mem a).mp ha) h2 (mem_nxt.mpr (.inl ⟨hf, rfl⟩)))
      have q := cnt_lt k.sorted hb
      rw [cnt_succ k.sorted ha, cnt_get k.sorted h1] at q
      rw [led1_len ok k] at hi
      omega
def Full (cs : List Cmd) : Prop := ∀ a, a < cs.length → Reach cs a
theorem led1_full (ok : OkC cs) (k : Kept cs R) : Full (led1 cs R) := by
  have zero : 0 ∈ R := (k.mem 0).mpr .zero
  have key : ∀ a, Reach cs a → Reach (led1 cs R) (cnt R a) := by
    intro a h
    induction h with
    | zero =>
      rw [cnt_zero fun x _ => Nat.zero_le x]
      exact .zero
    | @step a b c h1 h2 h3 ih =>
      have ha := (k.mem a).mpr h1
      refine .step ih (led1_get ok k ha h2) ?_
      rw [mem_nxt, Cmd.via_fin, Cmd.via_to]
      rcases mem_nxt.mp h3 with ⟨hf, rfl⟩ | ht
      · exact .inl ⟨hf, cnt_succ k.sorted ha⟩
      · exact .inr (by rw [ht]; rfl)
  intro i hi
  rw [led1_len ok k] at hi
  have := key R[i] ((k.mem _).mp (List.getElem_mem hi))
  rw [cnt_get k.sorted (List.getElem?_eq_getElem hi)] at this
  exact this
theorem Full.kept (ok : OkC cs) (f : Full cs) : Kept cs (List.range cs.length) := ⟨List.pairwise_lt_range, fun x => by rw [List.mem_range]; exact ⟨f x, ok.reach⟩⟩
theorem led1_full_id (ok : OkC cs) : led1 cs (List.range cs.length) = cs := by
  have lt : ∀ x ∈ List.range cs.length, x < cs.length := fun x h => List.mem_range.mp h
  obtain ⟨h1, h2⟩ := led1_eq (f := cnt (List.range cs.length)) lt fun _ h => h
  refine List.ext_getElem? fun i => ?_
  by_cases hi : i < cs.length
  · rw [led1, h2 i i (by rw [List.getElem?_range hi]), List.getElem?_eq_getElem hi]
    refine congrArg some (Cmd.via_id fun t ht => cnt_range (Nat.le_of_lt (ok.to i _ (List.getElem?_eq_getElem hi) t ht)))
  · rw [List.getElem?_eq_none (by rw [led1, h1, List.length_range]; omega), List.getElem?_eq_none (by omega)]
/-! #### one go left out -/
def idle (cs : List Cmd) : Option Nat := (List.range cs.length).find? fun i => decide (cs[i]? = some (.go (i + 1)))
def low (i t : Nat) : Nat := if i < t then t - 1 else t
def rem (cs : List Cmd) (i : Nat) : List Cmd := (cs.eraseIdx i).map (Cmd.via (low i))
theorem idle_some {i : Nat} (h : idle cs = some i) : cs[i]? = some (.go (i + 1)) := by
  have := List.find?_some h
  simpa using this
theorem rem_get {i j : Nat} {c : Cmd} (hj : j ≠ i) (h : cs[j]? = some c) : (rem cs i)[low i j]? = some (c.via (low i)) := by
  unfold rem low
  rw [List.getElem?_map, List.getElem?_eraseIdx]
  split
  · rw [if_neg (by omega), show j - 1 + 1 = j by omega, h]; rfl
  · rw [if_pos (by omega), h]; rfl
theorem rem_len {i : Nat} (h : i < cs.length) : (rem cs i).length = cs.length - 1 := by
  unfold rem
  rw [List.length_map, List.length_eraseIdx_of_lt h]
theorem rem_inv {i k : Nat} {d : Cmd} (hi : i < cs.length) (h : (rem cs i)[k]? = some d) : ∃ j c, j ≠ i ∧ cs[j]? = some c ∧ k = low i j ∧ d = c.via (low i) := by
  unfold rem at h
  rw [List.getElem?_map, List.getElem?_eraseIdx, Option.map_eq_some_iff] at h
  obtain ⟨c, hc, rfl⟩ := h
  unfold low
  split at hc
  · exact ⟨k, c, by omega, hc, by rw [if_neg (by omega)], rfl⟩
  · exact ⟨k + 1, c, by omega, hc, by rw [if_pos (by omega)]; omega, rfl⟩
theorem rem_ok (ok : OkC cs) {i : Nat} (h : cs[i]? = some (.go (i + 1))) : OkC (rem cs i) := by
  have hi := (List.getElem?_eq_some_iff.mp h).1
  have hi2 := ok.to i _ h (i + 1) rfl
  refine ⟨by rw [rem_len hi]; omega, fun k d hd t ht => ?_, fun k d hd hk => ?_⟩
  · obtain ⟨j, c, h1, h2, rfl, rfl⟩ := rem_inv hi hd
    rw [Cmd.via_to, Option.map_eq_some_iff] at ht
    obtain ⟨u, hu, rfl⟩ := ht
    have := ok.to j c h2 u hu
    rw [rem_len hi]
    unfold low
    split <;> omega
  · obtain ⟨j, c, h1, h2, rfl, rfl⟩ := rem_inv hi hd
    rw [Cmd.via_fin]
    have hj := (List.getElem?_eq_some_iff.mp h2).1
    refine ok.last j c h2 ?_
    rw [rem_len hi] at hk
    unfold low at hk
    split at hk <;> omega
theorem rem_full (ok : OkC cs) (f : Full cs) {i : Nat} (h : cs[i]? = some (.go (i + 1))) : Full (rem cs i) := by
  have hi := (List.getElem?_eq_some_iff.mp h).1
  have hi2 := ok.to i _ h (i + 1) rfl
  have key : ∀ a, Reach cs a → Reach (rem cs i) (low i a) := by
    intro a q
    induction q with
    | zero =>
      have : low i 0 = 0 := by unfold low; rw [if_neg (by omega)]
      rw [this]
      exact .zero
    | @step a b c h1 h2 h3 ih =>
      by_cases e : a = i
      · subst e
        rw [h] at h2
        cases h2
        have hb : b = a + 1 := by
          rcases mem_nxt.mp h3 with ⟨hf, _⟩ | ht
          · cases hf
          · exact (Option.some.inj ht).symm
        subst hb
        have e1 : low a a = a := by unfold low; rw [if_neg (by omega)]
        have e2 : low a (a + 1) = a := by unfold low; rw [if_pos (by omega)]; omega
        rw [e2]
        rw [e1] at ih
        exact ih
      · refine .step ih (rem_get e h2) ?_
        rw [mem_nxt, Cmd.via_fin, Cmd.via_to]
        rcases mem_nxt.mp h3 with ⟨hf, rfl⟩ | ht
        · refine .inl ⟨hf, ?_⟩
          unfold low
          split <;> split <;> omega
        · exact .inr (by rw [ht]; rfl)
  intro k hk
  rw [rem_len hi] at hk
  by_cases e : k ≤ i
  · have := key k (f k (by omega))
    unfold low at this
    rw [if_neg (by omega)] at this
    exact this
  · have := key (k + 1) (f (k + 1) (by omega))
    unfold low at this
    rw [if_pos (by omega)] at this
    exact this
/-- as long as there is an idle one -/
def shorten : Nat → List Cmd → List Cmd
  | 0, cs => cs
  | n + 1, cs => match idle cs with
    | none => cs
    | some i => shorten n (rem cs i)
theorem shorten_ok : ∀ (n : Nat) (cs : List Cmd), OkC cs → Full cs → cs.length ≤ n → OkC (shorten n cs) ∧ Full (shorten n cs) ∧ idle (shorten n cs) = none
  | 0, cs, ok, _, h => by have := ok.pos; omega
  | n + 1, cs, ok, f, h => by
    unfold shorten
    cases e : idle cs with
    | none => exact ⟨ok, f, e⟩
    | some i =>
      have hg := idle_some e
      have hi := (List.getElem?_eq_some_iff.mp hg).1
      exact shorten_ok n (rem cs i) (rem_ok ok hg) (rem_full ok f hg) (by rw [rem_len hi]; omega)
end
/-- what is short -/
def short (cs : List Cmd) (R : List Nat) : List Cmd := shorten (led1 cs R).length (led1 cs R)
theorem short_ok {cs : List Cmd} {R : List Nat} (ok : OkC cs) (k : Kept cs R) : OkC (short cs R) ∧ Full (short cs R) ∧ idle (short cs R) = none := shorten_ok _ _ (led1_ok ok k) (led1_full ok k) (Nat.le_refl _)
theorem short_short {cs : List Cmd} {R : List Nat} (ok : OkC cs) (k : Kept cs R) : short (short cs R) (List.range (short cs R).length) = short cs R := by
  obtain ⟨h1, h2, h3⟩ := short_ok ok k
  generalize short cs R = ds at *
  unfold short
  rw [led1_full_id h1]
  cases e : ds.length with
  | zero => rfl
  | succ n =>
    unfold shorten
    rw [h3]
end K06
end partK06m

section partK06q
set_option linter.all false
set_option maxRecDepth 100000
/-! K06q: what the defs of k06 compute. -/
namespace K06
open Mp
def nI' (n : Nat) : Int := Int.ofNat n
def sPut : PV := .str [112, 117, 116]
def sWait : PV := .str [119, 97, 105, 116]
def sStop : PV := .str [115, 116, 111, 112]
def sMark : PV := .str [109, 97, 114, 107]
def sSet : PV := .str [115, 101, 116]
def sLook : PV := .str [108, 111, 111, 107]
def sIf : PV := .str [105, 102]
def sEither : PV := .str [101, 105, 116, 104, 101, 114]
def sAsk : PV := .str [97, 115, 107]
def sGo : PV := .str [103, 111]
def sTo : PV := .str [116, 111]
def Cmd.pv : Cmd → PV
  | .put => .tup [sPut, .int 0, .int 1]
  | .put2 => .tup [sPut, .int 1, .int 2]
  | .wait => .tup [sWait, .int 1, .int 0]
  | .wait1 => .tup [sWait, .int 1, .int 1]
  | .stop => .tup [sStop]
  | .mark => .tup [sMark, .str [105, 110]]
  | .set => .tup [sSet, .int 0, .int 2]
  | .look => .tup [sLook, .int 0, .int 1]
  | .iff t => .tup [sIf, .int 1, .int 2, nI t]
  | .either t => .tup [sEither, nI t]
  | .ask t => .tup [sAsk, .int 0, .int 1, nI t]
  | .go t => .tup [sGo, nI t]
theorem Cmd.bel (c : Cmd) : c.pv.bel 0 = true := by cases c <;> rfl
def cds (cs : List Cmd) : PV := .tup (cs.map Cmd.pv)
def code (cs : List Cmd) : PV := .tup [.tup [.int 2], cds cs]
theorem cds_bel (cs : List Cmd) : (cds cs).bel 0 = true := belL_map Cmd.bel cs
theorem code_bel (cs : List Cmd) : (code cs).bel 0 = true := by
  show (true && ((cds cs).bel 0 && true)) = true
  rw [cds_bel]; rfl
theorem bel_code1 (cs : List Cmd) : PV.belL 0 [code cs] = true := by
  show ((code cs).bel 0 && true) = true
  rw [code_bel]; rfl
theorem bel_code2 (cs : List Cmd) (i : Int) : PV.belL 0 [code cs, .int i] = true := by
  show ((code cs).bel 0 && true) = true
  rw [code_bel]; rfl
def oI : Option Nat → PV
  | some t => nI t
  | none => .non
section
variable {k : Nat} {G : Grd} {S : Sto}
theorem part_to (c : Cmd) : callF PP (k + 1) G 0 [c.pv, sTo] S = .ok (.val (oI c.to)) S := by
  cases c <;> kernel_rfl
theorem with_to (c : Cmd) (f : Nat → Nat) (t : Nat) (h : c.to = some t) : callF PP (k + 1) G 1 [c.pv, nI (f t)] S = .ok (.val (c.via f).pv) S := by
  cases c <;> first | cases h | skip
  all_goals kernel_rfl
theorem cds_get {cs : List Cmd} {a : Nat} {c : Cmd} (h : cs[a]? = some c) : (cs.map Cmd.pv)[a]? = some c.pv := by
  rw [List.getElem?_map, h]; rfl
theorem at_code {cs : List Cmd} {a : Nat} {c : Cmd} (h : cs[a]? = some c) {F : FT} {σ : Env} {i j : Nat} (h0 : σ[i]? = some (some (code cs))) (h1 : σ[j]? = some (some (nI a))) :
    evE gl kd F G (((CE.var i).idx (CE.cst (PV.int 1))).idx (CE.var j)) σ S = .ok (.val c.pv) S :=
  ev_idx (ev_idx (ev_var h0) ev_cst (z := cds cs) rfl) (ev_var h1) (show pyIdx (cs.map Cmd.pv) (a : Nat) = _ from pyIdx_nat (cds_get h))
theorem next_ok {cs : List Cmd} {a : Nat} {c : Cmd} (h : cs[a]? = some c) : callF PP (k + 2) G 2 [code cs, nI a] S = .ok (.val (.tup ((nxt a c).map nI))) S := by
  have key : ∀ (l : List Nat) (S' : Sto), exL gl kd (callF PP (k + 1)) ⟨0, []⟩ (b2.drop 1) [some (code cs), some (nI a), some c.pv, none, none] [] = .ok (.rt (.val (.tup (l.map nI)))) S' → l = nxt a c → callF PP (k + 2) G 2 [code cs, nI a] S = .ok (.val (.tup ((nxt a c).map nI))) S := by
    rintro l S' e rfl
    refine call_own (d := e2) rfl rfl rfl (bel_code2 cs _) (S' := S') ((exL_nx (exS_asg (evP_val (at_code h rfl rfl)) rfl)).trans e) ?_
    show (if PV.bel 0 (.tup ((nxt a c).map nI)) = true then _ else _) = _
    rw [if_pos (show PV.bel 0 (.tup ((nxt a c).map nI)) = true from nI_belL _ 0)]
  have br : ∀ t : Nat, c.fin = false → c.to = some t → callF PP (k + 2) G 2 [code cs, nI a] S = .ok (.val (.tup ((nxt a c).map nI))) S := by
    intro t hf ht
    have h1 : exL gl kd (callF PP (k + 1)) ⟨0, []⟩ (b2.drop 1) [some (code cs), some (nI a), some c.pv, none, none] [] = exL gl kd (callF PP (k + 1)) ⟨0, []⟩ (b2.drop 4) [some (code cs), some (nI a), some c.pv, some (.ref 0), some (nI t)] [.lst [nI (a + 1)]] := by
      cases c <;> first | exact absurd (show true = false from hf) (by decide) | (cases ht; kernel_rfl) | cases ht
    have tru1 : tst gl kd (callF PP (k + 1)) ⟨0, []⟩ ((CE.cmp Cop.isn (CE.var 4) (CE.cst PV.non)).and (CE.cmp Cop.nin (CE.var 4) (CE.var 3))) [some (code cs), some (nI a), some c.pv, some (.ref 0), some (nI t)] [.lst [nI (a + 1)]] = .ok (!decide (t ∈ [a + 1])) [.lst [nI (a + 1)]] := by
      refine tst_of ((ev_andT (ev_cmp (ev_var rfl) ev_cst rfl) rfl).trans (ev_cmp (ev_var rfl) (ev_var rfl) (k := !decide (t ∈ [a + 1])) ?_)) rfl
      show (inE (.val (nI t)) (.val (.ref 0)) [.lst [nI (a + 1)]]).map not = _
      rw [in_nats (l := [a + 1]) rfl (by intro s z; cases z)]
      rfl
    have fin : ∀ (l : List Nat), exL gl kd (callF PP (k + 1)) ⟨0, []⟩ (b2.drop 5) [some (code cs), some (nI a), some c.pv, some (.ref 0), some (nI t)] [.lst (l.map nI)] = .ok (.rt (.val (.tup ((sortN l).map nI)))) [.lst (l.map nI)] := fun l =>
      exL_rt (exS_ret (ev_blt1 (ev_blt1 (ev_var rfl) (sorted_nats rfl)) rfl))
    have nx : nxt a c = if a + 1 = t then [t] else if a + 1 ≤ t then [a + 1, t] else [t, a + 1] := by
      unfold nxt
      rw [ht, hf]
      rfl
    by_cases e : a + 1 = t
    · subst e
      refine key [a + 1] [.lst ([a + 1].map nI)] (h1.trans ((exL_nx (σ1 := [some (code cs), some (nI a), some c.pv, some (.ref 0), some (nI (a + 1))]) (S1 := [.lst ([a + 1].map nI)]) ((exS_ife tru1).trans ?_)).trans (fin [a + 1]))) (by rw [nx, if_pos rfl])
      rw [if_neg (by simp)]
      kernel_rfl
    · refine key (sortN [a + 1, t]) [.lst ([a + 1, t].map nI)] (h1.trans ((exL_nx (σ1 := [some (code cs), some (nI a), some c.pv, some (.ref 0), some (nI t)]) (S1 := [.lst ([a + 1, t].map nI)]) ((exS_ife tru1).trans ?_)).trans (fin [a + 1, t]))) ?_
      · rw [if_pos (by simp; omega)]
        kernel_rfl
      · rw [nx, if_neg e]
        rfl
  have key2 := key (nxt a c) [.lst ((nxt a c).map nI)]
  cases c <;> first | exact br _ rfl rfl | exact key2 (by kernel_rfl) rfl
theorem own_tmp {i : Nat} {d : Def} {vs : List PV} {S' : Sto} {xs : List PV} (hd : PP.ds[i]? = some d) (hn : vs.length = d.np) (hm : d.md = 0) (hb : PV.belL 0 vs = true) (hx : PV.belL 0 xs = true)
    (h : exL gl kd (callF PP k) ⟨0, []⟩ d.body (startE d.ns vs) [] = .ok (.rt (.tmp (.lst xs))) S') : callF PP (k + 1) G i vs S = .ok (.tmp (.lst xs)) S := by
  refine call_own hd hn hm hb h ?_
  show (if PO.bel 0 (.lst xs) = true then _ else _) = _
  rw [if_pos (show PO.bel 0 (.lst xs) = true from hx)]
theorem own_val {i : Nat} {d : Def} {vs : List PV} {S' : Sto} {x : PV} (hd : PP.ds[i]? = some d) (hn : vs.length = d.np) (hm : d.md = 0) (hb : PV.belL 0 vs = true) (hx : x.bel 0 = true)
    (h : exL gl kd (callF PP k) ⟨0, []⟩ d.body (startE d.ns vs) [] = .ok (.rt (.val x)) S') : callF PP (k + 1) G i vs S = .ok (.val x) S := by
  refine call_own hd hn hm hb h ?_
  show (if PV.bel 0 x = true then _ else _) = _
  rw [if_pos hx]
theorem bel_cds2 (cs : List Cmd) (i : Int) : PV.belL 0 [cds cs, .int i] = true := by
  show ((cds cs).bel 0 && true) = true
  rw [cds_bel]; rfl
theorem lnext_ok {cs : List Cmd} {a : Nat} {c : Cmd} (h : cs[a]? = some c) : callF PP (k + 1) G 20 [cds cs, nI a] S = .ok (.tmp (.lst ((nxt a c).map nI))) S := by
  have key : exL gl kd (callF PP k) ⟨0, []⟩ (b20.drop 1) [some (cds cs), some (nI a), some c.pv] [] = .ok (.rt (.tmp (.lst ((nxt a c).map nI)))) [] → callF PP (k + 1) G 20 [cds cs, nI a] S = .ok (.tmp (.lst ((nxt a c).map nI))) S := by
    intro e
    refine own_tmp (d := e20) rfl rfl rfl (bel_cds2 cs _) (nI_belL _ 0) ((exL_nx (exS_asg (evP_val (ev_idx (ev_var rfl) (ev_var rfl) ?_)) rfl)).trans e)
    exact pyIdx_nat (cds_get h)
  have br : ∀ t : Nat, c.fin = false → c.to = some t → exL gl kd (callF PP k) ⟨0, []⟩ (b20.drop 1) [some (cds cs), some (nI a), some c.pv] [] = .ok (.rt (.tmp (.lst ((nxt a c).map nI)))) [] := by
    intro t hf ht
    have nx : nxt a c = if a + 1 = t then [t] else if a + 1 ≤ t then [a + 1, t] else [t, a + 1] := by
      unfold nxt
      rw [ht, hf]
      rfl
    have h1 : ∀ D : List Int, bltE .set [.tmp (.lst [nI (a + 1), nI t])] [] = some (.tmp (.set D)) → bltE .sorted [.tmp (.set D)] [] = some (.tmp (.lst ((nxt a c).map nI))) →
        exL gl kd (callF PP k) ⟨0, []⟩ (b20.drop 1) [some (cds cs), some (nI a), some c.pv] [] = .ok (.rt (.tmp (.lst ((nxt a c).map nI)))) [] := by
      intro D hs hso
      refine (exL_nx (σ1 := [some (cds cs), some (nI a), some c.pv]) (S1 := []) ?_).trans ((exL_nx (σ1 := [some (cds cs), some (nI a), some c.pv]) (S1 := []) ?_).trans (exL_rt ((exS_ife (k := true) (S1 := []) ?_).trans ?_)))
      · cases c <;> first | exact absurd (show true = false from hf) (by decide) | kernel_rfl
      · cases c <;> first | exact absurd (show true = false from hf) (by decide) | kernel_rfl
      · cases c <;> first | exact absurd (show true = false from hf) (by decide) | cases ht | skip
        all_goals kernel_rfl
      · rw [if_pos rfl]
        refine exL_rt (exS_ret (ev_blt1 (ev_blt1 (x := .tmp (.lst [nI (a + 1), nI t])) (S1 := []) ?_ hs) hso))
        cases c <;> first | exact absurd (show true = false from hf) (by decide) | (cases ht; kernel_rfl) | cases ht
    by_cases e : a + 1 = t
    · have d : dedupI [nI' (a + 1), nI' t] = [nI' t] := by
        subst e
        unfold dedupI
        rw [if_pos (by simp)]
        rfl
      refine h1 [nI' t] ?_ ?_
      · show (if (2 : Nat) < 60 then some (EV.tmp (PO.set (dedupI [nI' (a + 1), nI' t]))) else none) = _
        rw [if_pos (by decide), d]
      · rw [nx, if_pos e]
        rfl
    · have d : dedupI [nI' (a + 1), nI' t] = [nI' (a + 1), nI' t] := by
        unfold dedupI
        rw [if_neg (by simp only [List.mem_singleton]; exact fun z => e (Int.ofNat.inj z))]
        rfl
      refine h1 [nI' (a + 1), nI' t] ?_ ?_
      · show (if (2 : Nat) < 60 then some (EV.tmp (PO.set (dedupI [nI' (a + 1), nI' t]))) else none) = _
        rw [if_pos (by decide), d]
      · rw [nx, if_neg e]
        show (if (2 : Nat) < 64 then some (EV.tmp (PO.lst ((sortI ([a + 1, t].map Int.ofNat)).map .int))) else none) = _
        rw [if_pos (by decide), sortN_cast, List.map_map]
        rfl
  cases c <;> first | exact key (br _ rfl rfl) | exact key (by kernel_rfl)
end
end K06
end partK06q

section partK06r
set_option linter.all false
set_option maxRecDepth 100000
/-! K06r: what is reached, both ways. -/
namespace K06
open Mp
theorem insN_len (i : Nat) : ∀ l : List Nat, (insN i l).length = l.length + 1
  | [] => rfl
  | j :: r => by
    unfold insN
    split
    · rfl
    · rw [List.length_cons, insN_len i r, List.length_cons]
theorem sortN_len : ∀ l : List Nat, (sortN l).length = l.length
  | [] => rfl
  | i :: r => by
    unfold sortN
    rw [insN_len, sortN_len r, List.length_cons]
theorem asc_len : ∀ {l : List Nat} {m n : Nat}, l.Pairwise (· < ·) → (∀ x ∈ l, m ≤ x ∧ x < n) → l.length ≤ n - m
  | [], _, _, _, _ => Nat.zero_le _
  | a :: r, m, n, h, hb => by
    have h' := List.pairwise_cons.mp h
    have ha := hb a List.mem_cons_self
    have := asc_len (l := r) (m := a + 1) (n := n) h'.2 fun x hx => ⟨h'.1 x hx, (hb x (List.mem_cons_of_mem _ hx)).2⟩
    rw [List.length_cons]
    omega
theorem nodup_len {l : List Nat} {n : Nat} (h : l.Nodup) (hb : ∀ x ∈ l, x < n) : l.length ≤ n := by
  have := asc_len (m := 0) (n := n) (sortN_asc h) fun x hx => ⟨Nat.zero_le x, hb x (sortN_mem.mp hx)⟩
  rw [sortN_len] at this
  omega
def tI (told : List Nat) : List (PK × PV) := told.map fun a => (PK.kI (Int.ofNat a), PV.bl true)
theorem tI_get (b : Nat) : ∀ told : List Nat, (dGet (tI told) (.kI (Int.ofNat b))).isSome = decide (b ∈ told)
  | [] => rfl
  | a :: r => by
    have ih := tI_get b r
    unfold dGet tI at *
    rw [List.map_cons, List.find?_cons]
    by_cases h : b = a
    · subst h; simp
    · have h1 : ¬ (PK.kI (Int.ofNat a) = PK.kI (Int.ofNat b)) := fun z => h (Int.ofNat.inj (PK.kI.inj z)).symm
      simp only [decide_eq_false h1]
      rw [ih]
      simp [h]
theorem tI_put {b : Nat} {told : List Nat} (h : b ∉ told) : dPut (tI told) (.kI (Int.ofNat b)) (.bl true) = tI (told ++ [b]) := by
  unfold dPut
  rw [if_neg]
  · unfold tI
    rw [List.map_append]
    rfl
  · rw [List.any_eq_true]
    rintro ⟨p, hp, e⟩
    unfold tI at hp
    obtain ⟨a, ha, rfl⟩ := List.mem_map.mp hp
    simp only [decide_eq_true_eq, PK.kI.injEq] at e
    exact h (Int.ofNat.inj e ▸ ha)
theorem tI_keys (told : List Nat) : allInts ((tI told).map fun p => p.1.pv) = some (told.map Int.ofNat) := by
  have : ((tI told).map fun p => p.1.pv) = told.map nI := by
    unfold tI
    rw [List.map_map]
    rfl
  rw [this, allInts_nat]
def env3 (cs : List Cmd) (x : Option PV) : Env := [some (code cs), some (.ref 0), some (.ref 1), x]
def St3 (told q : List Nat) : Sto := [.dct (tI told), .lst (q.map nI)]
def body3 : List CS := [CS.ife (CE.cmp Cop.nin (CE.var 3) (CE.var 1))
            [CS.asgS (CE.var 1) (CE.var 3) (CE.cst (PV.bl true)), CS.exp (CE.mth Mth.append (CE.var 2) [CE.var 3])]
            []]
section
variable {cs : List Cmd} {F : FT} {k : Nat}
theorem turn3 {b : Nat} {told q : List Nat} (h1 : told.length < SZ) (h2 : q.length < SZ) : exL gl kd F ⟨0, []⟩ body3 (env3 cs (some (nI b))) (St3 told q) =
    .ok (.nx (env3 cs (some (nI b)))) (if b ∈ told then St3 told q else St3 (told ++ [b]) (q ++ [b])) := by
  have ht : tst gl kd F ⟨0, []⟩ (CE.cmp Cop.nin (CE.var 3) (CE.var 1)) (env3 cs (some (nI b))) (St3 told q) = .ok (!decide (b ∈ told)) (St3 told q) := by
    refine tst_of (ev_cmp (ev_var rfl) (ev_var rfl) (k := !decide (b ∈ told)) ?_) rfl
    show (some (dGet (tI told) (.kI (Int.ofNat b))).isSome).map not = _
    rw [tI_get]; rfl
  by_cases h : b ∈ told
  · rw [if_pos h]
    refine (exL_nx ((exS_ife ht).trans ?_)).trans (by rw [exL])
    rw [if_neg (by simp [h])]
    rw [exL]
  · rw [if_neg h]
    refine (exL_nx (σ1 := env3 cs (some (nI b))) (S1 := St3 (told ++ [b]) (q ++ [b])) ((exS_ife ht).trans ?_)).trans (by rw [exL])
    rw [if_pos (by simp [h])]
    refine (exL_nx (σ1 := env3 cs (some (nI b))) (S1 := St3 (told ++ [b]) q) ?_).trans ((exL_nx (σ1 := env3 cs (some (nI b))) (S1 := St3 (told ++ [b]) (q ++ [b])) (exS_exp (v := .val .non) (ev_mth (ev_var rfl) (k := true) rfl (evL_val (ev_var rfl) evL_nil) ?_))).trans (by rw [exL]))
    · rw [exS, evP_val (ev_cst (z := .bl true)), R.bind_ok, evP_val (ev_var (z := .ref 0) rfl), R.bind_ok, evP_val (ev_var (z := nI b) rfl), R.bind_ok]
      have : putE ⟨0, []⟩ (.ref 0) (nI b) (.bl true) (St3 told q) = some (St3 (told ++ [b]) q) := by
        show (if (tI told).length < SZ then put ⟨0, []⟩ 0 (.dct (dPut (tI told) (.kI (Int.ofNat b)) (.bl true))) (St3 told q) else none) = _
        rw [if_pos (by unfold tI; rw [List.length_map]; exact h1), tI_put h]
        rfl
      rw [this]
    · show (match (if (q.map nI).length < SZ then some (PV.non, q.map nI ++ [nI b]) else none) with
        | some (v, xs') => (match put ⟨0, []⟩ 1 (.lst xs') (St3 (told ++ [b]) q) with
          | some S' => R.ok (EV.val v) S'
          | none => .err)
        | none => .err) = _
      rw [if_pos (by rw [List.length_map]; exact h2)]
      show R.ok (EV.val .non) [.dct (tI (told ++ [b])), .lst (q.map nI ++ [nI b])] = _
      unfold St3
      rw [List.map_append]
      rfl
theorem in3 : ∀ (ns told q : List Nat) (x : Option PV), told.Nodup → told.length + ns.length < SZ → q.length + ns.length < SZ →
    ∃ new x', forF ⟨0, []⟩ (.var 3) (fun σ S => exL gl kd F ⟨0, []⟩ body3 σ S) (ns.map nI) (env3 cs x) (St3 told q) = .ok (.nx (env3 cs x')) (St3 (told ++ new) (q ++ new)) ∧ (∀ y ∈ new, y ∈ ns ∧ y ∉ told) ∧ (∀ y ∈ ns, y ∈ told ++ new) ∧ (told ++ new).Nodup ∧ new.Nodup
  | [], told, q, x, hn, _, _ => ⟨[], x, by rw [List.append_nil, List.append_nil]; rfl, by simp, by simp, by simpa using hn, by simp⟩
  | b :: ns, told, q, x, hn, h1, h2 => by
    rw [List.length_cons] at h1 h2
    have e := forF_nx (G := ⟨0, []⟩) (t := .var 3) (x := nI b) (xs := ns.map nI) (σ := env3 cs x) (S := St3 told q) (f := fun σ S => exL gl kd F ⟨0, []⟩ body3 σ S) rfl (turn3 (b := b) (by omega) (by omega))
    rw [List.map_cons, e]
    by_cases h : b ∈ told
    · rw [if_pos h]
      obtain ⟨new, x', e1, e2, e3, e4, e5⟩ := in3 ns told q (some (nI b)) hn (by omega) (by omega)
      refine ⟨new, x', e1, fun y hy => ⟨List.mem_cons_of_mem _ (e2 y hy).1, (e2 y hy).2⟩, fun y hy => ?_, e4, e5⟩
      rcases List.mem_cons.mp hy with rfl | hy
      · exact List.mem_append_left _ h
      · exact e3 y hy
    · rw [if_neg h]
      have hn' : (told ++ [b]).Nodup := by
        rw [List.nodup_append]
        refine ⟨hn, by simp, fun a ha c hc => ?_⟩
        simp only [List.mem_singleton] at hc
        subst hc
        exact fun z => h (z ▸ ha)
      obtain ⟨new, x', e1, e2, e3, e4, e5⟩ := in3 ns (told ++ [b]) (q ++ [b]) (some (nI b)) hn' (by simp; omega) (by simp; omega)
      refine ⟨b :: new, x', by rw [e1]; simp, fun y hy => ?_, fun y hy => ?_, by simpa using e4, ?_⟩
      · rcases List.mem_cons.mp hy with rfl | hy
        · exact ⟨List.mem_cons_self, h⟩
        · exact ⟨List.mem_cons_of_mem _ (e2 y hy).1, fun z => (e2 y hy).2 (List.mem_append_left _ z)⟩
      · rcases List.mem_cons.mp hy with rfl | hy
        · simp
        · have := e3 y hy
          simpa using this
      · exact List.nodup_cons.mpr ⟨fun z => (e2 b z).2 (by simp), e5⟩
/-- what stands at the head of the loop -/
structure Inv3 (cs : List Cmd) (told q : List Nat) : Prop where
  nd : told.Nodup
  qnd : q.Nodup
  zero : 0 ∈ told
  sub : ∀ x ∈ q, x ∈ told
  re : ∀ x ∈ told, Reach cs x
  cl : ∀ a ∈ told, a ∉ q → ∀ c, cs[a]? = some c → ∀ b ∈ nxt a c, b ∈ told
theorem nxt_len (a : Nat) (c : Cmd) : (nxt a c).length ≤ 2 := by
  unfold nxt
  repeat' split
  all_goals simp
def whl3 : List CS := [CS.frr (Tg.var 3) (CI.exp (CE.call 2 [CE.var 0, CE.mth Mth.pop (CE.var 2) []])) body3]
theorem loop3 (ok : OkC cs) (hlen : cs.length ≤ 1000) : ∀ (mz fuel : Nat) (told q : List Nat) (x : Option PV), Inv3 cs told q → 2 * (cs.length - told.length) + q.length ≤ mz → mz < fuel →
    ∃ R x', (∀ y, y ∈ R ↔ Reach cs y) ∧ R.Nodup ∧ whlF (fun σ S => tst gl kd (callF PP (k + 2)) ⟨0, []⟩ (CE.var 2) σ S) (fun σ S => exL gl kd (callF PP (k + 2)) ⟨0, []⟩ whl3 σ S) fuel (env3 cs x) (St3 told q) = .ok (.nx (env3 cs x')) (St3 R [])
  | mz, 0, told, q, x, I, hm, hf => absurd hf (Nat.not_lt_zero _)
  | mz, fuel + 1, told, q, x, I, hm, hf => by
    have htst : tst gl kd (callF PP (k + 2)) ⟨0, []⟩ (CE.var 2) (env3 cs x) (St3 told q) = .ok (!(q.map nI).isEmpty) (St3 told q) := tst_of (ev_var rfl) rfl
    rcases List.eq_nil_or_concat q with rfl | ⟨q', a, rfl⟩
    · refine ⟨told, x, closed_reach I.zero I.re fun a ha c hc b hb => I.cl a ha (by simp) c hc b hb, I.nd, whlF_end ?_⟩
      exact htst
    · rw [List.concat_eq_append] at *
      have lt : ∀ x ∈ told, x < cs.length := fun x hx => ok.reach (I.re x hx)
      have hl := nodup_len I.nd lt
      have hat : a ∈ told := I.sub a (by simp)
      have hac : cs[a]? = some (cs[a]'(lt a hat)) := List.getElem?_eq_getElem _
      generalize hc : cs[a]'(lt a hat) = c at hac
      have hq' : q'.Nodup ∧ a ∉ q' := by
        have := I.qnd
        rw [List.nodup_append] at this
        exact ⟨this.1, fun z => this.2.2 a z a (by simp) rfl⟩
      have hql : q'.length ≤ told.length := nodup_len_sub hq'.1 fun y hy => I.sub y (by simp [hy])
      have hz : SZ = 16777216 := rfl
      have hnl := nxt_len a c
      obtain ⟨new, x', e1, e2, e3, e4, e5⟩ := in3 (cs := cs) (F := callF PP (k + 2)) (nxt a c) told q' x I.nd (by omega) (by omega)
      have hpop : mthE ⟨0, []⟩ .pop (.val (.ref 1)) [] (St3 told (q' ++ [a])) = .ok (.val (nI a)) (St3 told q') := by
        show (match (match ((q' ++ [a]).map nI).getLast? with
          | some v => some (v, ((q' ++ [a]).map nI).dropLast)
          | none => none) with
          | some (v, xs') => (match put ⟨0, []⟩ 1 (.lst xs') (St3 told (q' ++ [a])) with
            | some S' => R.ok (EV.val v) S'
            | none => .err)
          | none => .err) = _
        rw [List.map_append, List.map_singleton, List.getLast?_concat, List.dropLast_concat]
        rfl
      have hev : evI gl kd (callF PP (k + 2)) ⟨0, []⟩ (CI.exp (CE.call 2 [CE.var 0, CE.mth Mth.pop (CE.var 2) []])) (env3 cs x) (St3 told (q' ++ [a])) = .ok ⟨(nxt a c).map nI, []⟩ (St3 told q') := by
        refine evI_exp (x := .val (.tup ((nxt a c).map nI))) ((ev_call (evL_val (ev_var (z := code cs) rfl) (evL_val (ev_mth (ev_var rfl) (k := true) rfl evL_nil hpop) evL_nil))).trans (next_ok hac)) rfl
      have hbody : exL gl kd (callF PP (k + 2)) ⟨0, []⟩ whl3 (env3 cs x) (St3 told (q' ++ [a])) = .ok (.nx (env3 cs x')) (St3 (told ++ new) (q' ++ new)) :=
        (exL_nx ((exS_frr hev).trans e1)).trans (by rw [exL])
      have I' : Inv3 cs (told ++ new) (q' ++ new) := by
        refine ⟨e4, ?_, List.mem_append_left _ I.zero, fun y hy => ?_, fun y hy => ?_, fun b hb hnq d hd z hz => ?_⟩
        · rw [List.nodup_append]
          exact ⟨hq'.1, e5, fun u hu v hv z => (e2 v hv).2 (z ▸ I.sub u (by simp [hu]))⟩
        · rcases List.mem_append.mp hy with hy | hy
          · exact List.mem_append_left _ (I.sub y (by simp [hy]))
          · exact List.mem_append_right _ hy
        · rcases List.mem_append.mp hy with hy | hy
          · exact I.re y hy
          · exact .step (I.re a hat) hac (e2 y hy).1
        · rcases List.mem_append.mp hb with hb | hb
          · by_cases e : b = a
            · subst e
              rw [hac] at hd
              cases hd
              exact e3 z hz
            · refine List.mem_append_left _ (I.cl b hb (fun w => ?_) d hd z hz)
              rcases List.mem_append.mp w with w | w
              · exact hnq (List.mem_append_left _ w)
              · exact e (by simpa using w)
          · exact absurd (List.mem_append_right _ hb) hnq
      have lt' := fun x hx => ok.reach (I'.re x hx)
      have hl' := nodup_len I'.nd lt'
      rw [List.length_append] at hl'
      obtain ⟨R, x2, r1, r2, r3⟩ := loop3 ok hlen (mz - 1) fuel (told ++ new) (q' ++ new) x' I' (by simp at hm ⊢; omega) (by simp at hm; omega)
      refine ⟨R, x2, r1, r2, ?_⟩
      rw [← r3]
      refine whlF_go ?_ hbody
      rw [htst]
      simp
where
  nodup_len_sub {l m : List Nat} (h : l.Nodup) (hs : ∀ x ∈ l, x ∈ m) : l.length ≤ m.length := by
    induction l generalizing m with
    | nil => exact Nat.zero_le _
    | cons a r ih =>
      have h' := List.nodup_cons.mp h
      have hm := hs a List.mem_cons_self
      have : r.length ≤ (m.erase a).length := ih h'.2 fun x hx => (List.mem_erase_of_ne (by intro e; subst e; exact h'.1 hx)).mpr (hs x (List.mem_cons_of_mem _ hx))
      rw [List.length_erase_of_mem hm] at this
      have := List.length_pos_of_mem hm
      rw [List.length_cons]
      omega
theorem reached_ok {R : List Nat} {G : Grd} {S : Sto} (ok : OkC cs) (hlen : cs.length ≤ 1000) (kp : Kept cs R) : callF PP (k + 3) G 3 [code cs] S = .ok (.val (.tup (R.map nI))) S := by
  have I : Inv3 cs [0] [0] := ⟨by simp, by simp, by simp, by simp, fun x hx => by simp at hx; subst hx; exact .zero, fun a ha hn => absurd ha hn⟩
  obtain ⟨R', x', r1, r2, r3⟩ := loop3 (k := k) ok hlen (2 * (cs.length - 1) + 1) FUEL [0] [0] none I (by simp) (by
    have : FUEL = 1000000000 := rfl
    omega)
  have e : R = sortN R' := kp.unique (kept_of r2 r1)
  subst e
  refine own_val (d := e3) (S' := St3 R' []) rfl rfl rfl (bel_code1 cs) (nI_belL _ 0) ?_
  have hs : bltE .sorted [.val (.ref 0)] (St3 R' []) = some (.tmp (.lst ((sortN R').map nI))) := by
    show (allInts ((tI R').map fun p => p.1.pv)).map (fun ns => EV.tmp (.lst ((sortI ns).map .int))) = _
    rw [tI_keys, Option.map_some, sortN_cast, List.map_map]
    rfl
  exact (exL_nx (σ1 := [some (code cs), some (.ref 0), none, none]) (S1 := [.dct (tI [0])]) (by kernel_rfl)).trans ((exL_nx (σ1 := env3 cs none) (S1 := St3 [0] [0]) (by kernel_rfl)).trans ((exL_nx (exS_whl.trans r3)).trans (exL_rt (exS_ret (ev_blt1 (x := .tmp (.lst ((sortN R').map nI))) (ev_blt1 (ev_var rfl) hs) rfl)))))
end
end K06
end partK06r

section partK06s
set_option linter.all false
set_option maxRecDepth 100000
/-! K06s: the law's own way to what is reached. -/
namespace K06
open Mp
section
variable {cs : List Cmd} {k : Nat}
def env21 (cs : List Cmd) (x y : Option PV) : Env := [some (cds cs), some (.ref 0), x, y]
def body21 : List CS := [CS.ife (CE.cmp Cop.eq (CE.var 2) (CE.blt Blt.len [CE.var 1])) [CS.brk] [],
      CS.exp
        ((CE.var 1).ext
          ((CE.var 3).lc (Tg.var 3) (CI.exp (CE.call 20 [CE.var 0, (CE.var 1).idx (CE.var 2)]))
            [CE.cmp Cop.nin (CE.var 3) (CE.var 1)] [3]))]
def St21 (told : List Nat) : Sto := [.lst (told.map nI)]
theorem test21 {i : Nat} {told : List Nat} {F : FT} {y : Option PV} : tst gl kd F ⟨0, []⟩ (CE.cmp Cop.eq (CE.var 2) (CE.blt Blt.len [CE.var 1])) (env21 cs (some (nI i)) y) (St21 told) = .ok (decide (i = told.length)) (St21 told) := by
  refine tst_of (ev_cmp (ev_var rfl) (ev_blt1 (x := .val (.ref 0)) (v := .val (nI told.length)) (ev_var rfl) ?_) (k := decide (i = told.length)) (eq_nats (S := St21 told) i told.length)) rfl
  show some (EV.val (.int ((told.map nI).length : Nat))) = _
  rw [List.length_map]
  rfl
theorem lc21 {i a : Nat} {c : Cmd} {told : List Nat} {y : Option PV} (ha : told[i]? = some a) (hc : cs[a]? = some c) :
    evE gl kd (callF PP (k + 1)) ⟨0, []⟩ ((CE.var 3).lc (Tg.var 3) (CI.exp (CE.call 20 [CE.var 0, (CE.var 1).idx (CE.var 2)])) [CE.cmp Cop.nin (CE.var 3) (CE.var 1)] [3]) (env21 cs (some (nI i)) y) (St21 told) =
      .ok (.tmp (.lst (((nxt a c).filter fun b => !decide (b ∈ told)).map nI))) (St21 told) := by
  have hz : SZ = 16777216 := rfl
  have hcall : evI gl kd (callF PP (k + 1)) ⟨0, []⟩ (CI.exp (CE.call 20 [CE.var 0, (CE.var 1).idx (CE.var 2)])) (env21 cs (some (nI i)) y) (St21 told) = .ok ⟨(nxt a c).map nI, []⟩ (St21 told) := by
    refine evI_exp (x := .tmp (.lst ((nxt a c).map nI))) ((ev_call (evL_val (ev_var (z := cds cs) rfl) (evL_val (ev_idx (z := nI a) (x := .val (.ref 0)) (ev_var rfl) (ev_var rfl) ?_) evL_nil))).trans (lnext_ok hc)) rfl
    show pyIdx (told.map nI) (i : Nat) = _
    exact pyIdx_nat (by rw [List.getElem?_map, ha]; rfl)
  refine ev_lc hcall ?_ ?_
  · have turn : ∀ b : Nat, lcB gl kd (callF PP (k + 1)) ⟨0, []⟩ (CE.var 3) (Tg.var 3) [CE.cmp Cop.nin (CE.var 3) (CE.var 1)] (wipeE (env21 cs (some (nI i)) y) [3]) (nI b) (St21 told) = .ok (if (!decide (b ∈ told)) = true then some (nI b) else none) (St21 told) := by
      intro b
      have ht : evT gl kd (callF PP (k + 1)) ⟨0, []⟩ [CE.cmp Cop.nin (CE.var 3) (CE.var 1)] (env21 cs (some (nI i)) (some (nI b))) (St21 told) = .ok (!decide (b ∈ told)) (St21 told) := by
        refine evT_one (ev_cmp (x := .val (nI b)) (y := .val (.ref 0)) (ev_var rfl) (ev_var rfl) (k := !decide (b ∈ told)) ?_) rfl
        show (inE (.val (nI b)) (.val (.ref 0)) (St21 told)).map not = _
        rw [in_nats (l := told) rfl (by intro s z; cases z)]
        rfl
      cases hb : (!decide (b ∈ told)) with
      | false => rw [hb] at ht; exact lcB_no rfl ht
      | true => rw [hb] at ht; exact lcB_yes rfl ht (ev_var rfl)
    refine (lcF_pure (g := fun x => match x with
      | .int j => if (!decide (j.toNat ∈ told)) = true then some x else none
      | _ => none) fun x hx => ?_).trans ?_
    · obtain ⟨b, _, rfl⟩ := List.mem_map.mp hx
      exact turn b
    · exact congrArg (fun z => R.ok z (St21 told)) (filter_nats (p := fun b => !decide (b ∈ told)) (fun b => rfl) (nxt a c))
  · have h1 := nxt_len a c
    have h2 := List.length_filter_le (fun b => !decide (b ∈ told)) (nxt a c)
    rw [List.length_map]
    omega
structure Inv21 (cs : List Cmd) (told : List Nat) (i : Nat) : Prop where
  nd : told.Nodup
  zero : 0 ∈ told
  re : ∀ x ∈ told, Reach cs x
  le : i ≤ told.length
  cl : ∀ j a, j < i → told[j]? = some a → ∀ c, cs[a]? = some c → ∀ b ∈ nxt a c, b ∈ told
theorem Inv21.done {told : List Nat} {i : Nat} (I : Inv21 cs told i) (h : told.length ≤ i) : ∀ x, x ∈ told ↔ Reach cs x := closed_reach I.zero I.re fun a ha c hc b hb => by
  obtain ⟨j, hj⟩ := List.mem_iff_getElem?.mp ha
  exact I.cl j a (by have := (List.getElem?_eq_some_iff.mp hj).1; omega) hj c hc b hb
theorem loop21 (ok : OkC cs) (hlen : cs.length ≤ 1000) : ∀ (m i : Nat) (told : List Nat) (x y : Option PV), i + m = cs.length → Inv21 cs told i →
    ∃ R x' y', (∀ z, z ∈ R ↔ Reach cs z) ∧ R.Nodup ∧ forF ⟨0, []⟩ (.var 2) (fun σ S => exL gl kd (callF PP (k + 1)) ⟨0, []⟩ body21 σ S) ((List.range' i m).map nI) (env21 cs x y) (St21 told) = .ok (.nx (env21 cs x' y')) (St21 R)
  | 0, i, told, x, y, hm, I => by
    have hl := nodup_len I.nd fun z hz => ok.reach (I.re z hz)
    exact ⟨told, x, y, I.done (by omega), I.nd, rfl⟩
  | m + 1, i, told, x, y, hm, I => by
    have hz : SZ = 16777216 := rfl
    have hl := nodup_len I.nd fun z hz => ok.reach (I.re z hz)
    rw [List.range'_succ, List.map_cons]
    by_cases e : i = told.length
    · refine ⟨told, some (nI i), y, I.done (by omega), I.nd, forF_bk (σ1 := env21 cs (some (nI i)) y) rfl (exL_bk ((exS_ife test21).trans ?_))⟩
      rw [if_pos (by simpa using e)]
      rfl
    · have hi : i < told.length := by have := I.le; omega
      have ha := List.getElem?_eq_getElem hi
      generalize told[i] = a at ha
      have hat := List.mem_of_getElem? ha
      have hac : cs[a]? = some (cs[a]'(ok.reach (I.re a hat))) := List.getElem?_eq_getElem _
      generalize cs[a]'(ok.reach (I.re a hat)) = c at hac
      have h2 := nxt_len a c
      have h3 := List.length_filter_le (fun b => !decide (b ∈ told)) (nxt a c)
      generalize hnew : (nxt a c).filter (fun b => !decide (b ∈ told)) = new at h3
      have mem : ∀ b, b ∈ new ↔ b ∈ nxt a c ∧ b ∉ told := fun b => by rw [← hnew]; simp
      have body : exL gl kd (callF PP (k + 1)) ⟨0, []⟩ body21 (env21 cs (some (nI i)) y) (St21 told) = .ok (.nx (env21 cs (some (nI i)) y)) (St21 (told ++ new)) := by
        refine (exL_nx (σ1 := env21 cs (some (nI i)) y) (S1 := St21 told) ((exS_ife test21).trans ?_)).trans ((exL_nx (exS_exp (v := .val .non) (S1 := St21 (told ++ new)) (ev_ext (x := .val (.ref 0)) (ev_var rfl) (k := true) rfl (lc21 ha hac) ?_))).trans (by rw [exL]))
        · rw [if_neg (by simpa using e)]
          rw [exL]
        · rw [hnew]
          show (if (told.map nI).length + (new.map nI).length ≤ SZ then (match put ⟨0, []⟩ 0 (.lst (told.map nI ++ new.map nI)) (St21 told) with
            | some S' => R.ok (EV.val .non) S'
            | none => .err) else .err) = _
          rw [if_pos (by rw [List.length_map, List.length_map]; omega), ← List.map_append]
          rfl
      have I' : Inv21 cs (told ++ new) (i + 1) := by
        refine ⟨?_, List.mem_append_left _ I.zero, fun z hz => ?_, by rw [List.length_append]; omega, fun j b hj hb d hd z hz => ?_⟩
        · rw [List.nodup_append]
          refine ⟨I.nd, ?_, fun u hu v hv w => ((mem v).mp hv).2 (w ▸ hu)⟩
          rw [← hnew]
          exact (nxt_nodup a c).filter _
        · rcases List.mem_append.mp hz with hz | hz
          · exact I.re z hz
          · exact .step (I.re a hat) hac ((mem z).mp hz).1
        · have hjl : j < told.length := by omega
          rw [List.getElem?_append_left hjl] at hb
          by_cases ej : j = i
          · subst ej
            rw [ha] at hb
            cases hb
            rw [hac] at hd
            cases hd
            by_cases hzt : z ∈ told
            · exact List.mem_append_left _ hzt
            · exact List.mem_append_right _ ((mem z).mpr ⟨hz, hzt⟩)
          · exact List.mem_append_left _ (I.cl j b (by omega) hb d hd z hz)
      obtain ⟨R, x', y', r1, r2, r3⟩ := loop21 ok hlen m (i + 1) (told ++ new) (some (nI i)) y (by omega) I'
      exact ⟨R, x', y', r1, r2, (forF_nx (σ1 := env21 cs (some (nI i)) y) rfl body).trans r3⟩
theorem len_cds {F : FT} {G : Grd} {σ : Env} {S : Sto} {i : Nat} (h : σ[i]? = some (some (cds cs))) : evE gl kd F G (CE.blt Blt.len [CE.var i]) σ S = .ok (.val (nI cs.length)) S := by
  refine ev_blt1 (x := .val (cds cs)) (ev_var h) ?_
  show some (EV.val (.int ((cs.map Cmd.pv).length : Nat))) = _
  rw [List.length_map]
  rfl
theorem lreached_ok {R : List Nat} {G : Grd} {S : Sto} (ok : OkC cs) (hlen : cs.length ≤ 1000) (kp : Kept cs R) : callF PP (k + 2) G 21 [cds cs] S = .ok (.tmp (.lst (R.map nI))) S := by
  have hz : SZ = 16777216 := rfl
  have I : Inv21 cs [0] 0 := ⟨by simp, by simp, fun x hx => by simp at hx; subst hx; exact .zero, by simp, fun j a hj => absurd hj (Nat.not_lt_zero _)⟩
  obtain ⟨R', x', y', r1, r2, r3⟩ := loop21 (k := k) ok hlen cs.length 0 [0] none none (by omega) I
  have e : R = sortN R' := kp.unique (kept_of r2 r1)
  subst e
  refine own_tmp (d := e21) (S' := St21 R') rfl rfl rfl ?_ (nI_belL _ 0) ?_
  · show ((cds cs).bel 0 && true) = true
    rw [cds_bel]; rfl
  · refine (exL_nx (σ1 := env21 cs none none) (S1 := St21 [0]) (by kernel_rfl)).trans ((exL_nx ((exS_frr (evI_rng1 (j := Int.ofNat cs.length) (len_cds rfl) (rngW_nat (by omega)))).trans r3)).trans (exL_rt (exS_ret (ev_blt1 (x := .val (.ref 0)) (ev_var rfl) (sorted_nats rfl)))))
end
end K06
end partK06s

section partK06t
set_option linter.all false
set_option maxRecDepth 100000
/-! K06t: dead_commands, _law_led, idle_go, without_command. -/
namespace K06
open Mp
section
variable {cs : List Cmd} {k : Nat} {G : Grd} {S : Sto}
def dead (cs : List Cmd) (R : List Nat) : List Nat := (List.range' 0 cs.length).filter fun a => !decide (a ∈ R)
theorem ev_code1 {F : FT} {σ : Env} {i : Nat} (h : σ[i]? = some (some (code cs))) : evE gl kd F G ((CE.var i).idx (CE.cst (PV.int 1))) σ S = .ok (.val (cds cs)) S := ev_idx (ev_var h) ev_cst rfl
theorem len_code {F : FT} {σ : Env} {i : Nat} (h : σ[i]? = some (some (code cs))) : evE gl kd F G (CE.blt Blt.len [(CE.var i).idx (CE.cst (PV.int 1))]) σ S = .ok (.val (nI cs.length)) S := by
  refine ev_blt1 (ev_code1 h) ?_
  show some (EV.val (.int ((cs.map Cmd.pv).length : Nat))) = _
  rw [List.length_map]
  rfl
theorem dead_ok {R : List Nat} (ok : OkC cs) (hlen : cs.length ≤ 1000) (kp : Kept cs R) : callF PP (k + 4) G 4 [code cs] S = .ok (.val (.tup ((dead cs R).map nI))) S := by
  have hz : SZ = 16777216 := rfl
  refine own_val (d := e4) (S' := []) rfl rfl rfl (bel_code1 cs) (nI_belL _ 0) ?_
  refine (exL_nx (σ1 := [some (code cs), some (.tup (R.map nI)), none]) (S1 := []) (exS_asg (evP_val ((ev_call (evL_val (ev_var rfl) evL_nil)).trans (reached_ok ok hlen kp))) rfl)).trans (exL_rt (exS_ret (ev_blt1 (x := .tmp (.lst ((dead cs R).map nI))) ?_ rfl)))
  have e := ev_lcG (gl := gl) (kd := kd) (F := callF PP (k + 3)) (G := ⟨0, []⟩) (σ := [some (code cs), some (.tup (R.map nI)), none]) (S := []) (S1 := []) (e := CE.var 2) (t := Tg.var 2) (it := CI.rng1 (CE.blt Blt.len [(CE.var 0).idx (CE.cst (PV.int 1))])) (ifs := [CE.cmp Cop.nin (CE.var 2) (CE.var 1)]) (own := [2])
    (xs := List.range' 0 cs.length) (h := nI) (g := fun a => if (!decide (a ∈ R)) = true then some (nI a) else none) (fr := []) (evI_rng1 (j := Int.ofNat cs.length) (len_code rfl) (rngW_nat (by omega))) (fun a _ => ?_) (by rw [List.length_range']; omega)
  · rw [filterMap_if] at e
    exact e
  · refine lcB_if (σ1 := [some (code cs), some (.tup (R.map nI)), some (nI a)]) rfl (ev_cmp (x := .val (nI a)) (y := .val (.tup (R.map nI))) (ev_var rfl) (ev_var rfl) ?_) fun _ => ev_var rfl
    show (inE _ _ _).map not = _
    rw [in_nats (l := R) rfl (by intro s z; cases z)]
    rfl
/-! #### led to where a list says -/
theorem led_ok {c : Cmd} {l : Nat} {ns : List Nat} {f : Nat → Nat} (hl : S[l]? = some (.lst (ns.map nI))) (ht : ∀ t, c.to = some t → ns[t]? = some (f t)) : callF PP (k + 1) G 22 [c.pv, .ref l] S = .ok (.val (c.via f).pv) S := by
  refine call_raw (d := e22) rfl rfl rfl (exL_rt (exS_ret ?_))
  have go : ∀ (t : Nat) (pre : List PV), c.to = some t → evE gl kd (callF PP k) G ((CE.var 0).slc none (some (CE.cst (PV.int (1))).neg)) [some c.pv, some (.ref l)] S = .ok (.val (.tup pre)) S →
      evE gl kd (callF PP k) G ((CE.var 0).idx (CE.cst (PV.int (1))).neg) [some c.pv, some (.ref l)] S = .ok (.val (nI t)) S →
      evE gl kd (callF PP k) G (CE.bin Bop.add ((CE.var 0).slc none (some (CE.cst (PV.int (1))).neg)) (CE.tup [(CE.var 1).idx ((CE.var 0).idx (CE.cst (PV.int (1))).neg)])) [some c.pv, some (.ref l)] S = R.opt (binE .add (.val (.tup pre)) (.val (.tup [nI (f t)])) S) S := by
    intro t pre h1 h2 h3
    have hx : idxE (.val (.ref l)) (.val (nI t)) S = some (nI (f t)) := idx_lst hl (by rw [List.getElem?_map, ht t h1]; rfl)
    rw [evE, h2, R.bind_ok, ev_tup (vs := [nI (f t)]) (evL_val (ev_idx (ev_var rfl) h3 hx) evL_nil) (by show 1 ≤ SZ; decide), R.bind_ok]
  cases c with
  | iff t => exact (ev_iteT (x := .val (.bl true)) (S1 := S) (by kernel_rfl) rfl).trans ((go t [sIf, .int 1, .int 2] rfl (by kernel_rfl) (by kernel_rfl)).trans (by kernel_rfl))
  | either t => exact (ev_iteT (x := .val (.bl true)) (S1 := S) (by kernel_rfl) rfl).trans ((go t [sEither] rfl (by kernel_rfl) (by kernel_rfl)).trans (by kernel_rfl))
  | ask t => exact (ev_iteT (x := .val (.bl true)) (S1 := S) (by kernel_rfl) rfl).trans ((go t [sAsk, .int 0, .int 1] rfl (by kernel_rfl) (by kernel_rfl)).trans (by kernel_rfl))
  | go t => exact (ev_iteT (x := .val (.bl true)) (S1 := S) (by kernel_rfl) rfl).trans ((go t [sGo] rfl (by kernel_rfl) (by kernel_rfl)).trans (by kernel_rfl))
  | _ => kernel_rfl
/-! #### the first idle go -/
theorem eq_go {c : Cmd} {t : Nat} : eqE (.val c.pv) (.val (.tup [sGo, nI t])) S = some (decide (c = .go t)) := by
  cases c with
  | go u =>
    have h1 : eqE (.val (Cmd.go u).pv) (.val (.tup [sGo, nI t])) S = some (PV.eqv (nI u) (nI t) && true) := by kernel_rfl
    rw [h1, nI_eqv, Bool.and_true]
    congr 1
    by_cases h : u = t
    · subst h; simp
    · have : ¬ Cmd.go u = Cmd.go t := fun e => h (Cmd.go.inj e)
      rw [decide_eq_false h, decide_eq_false this]
  | _ =>
    rw [decide_eq_false (by intro e; cases e)]
    kernel_rfl
theorem enumL_map {α : Type} (h : α → PV) : ∀ (xs : List α) (i : Nat), enumL i (xs.map h) = (xs.zipIdx i).map fun p => .tup [nI p.2, h p.1]
  | [], _ => rfl
  | x :: xs, i => by
    rw [List.map_cons, enumL, enumL_map h xs (i + 1), List.zipIdx_cons, List.map_cons]
    rfl
/-- all idle ones, from i on -/
def idles (cs : List Cmd) : List Nat := (List.range' 0 cs.length).filter fun i => decide (cs[i]? = some (.go (i + 1)))
theorem idles_head (cs : List Cmd) : (idles cs).head? = idle cs := by
  unfold idles idle
  rw [List.head?_filter, List.range_eq_range']
theorem zip_idles {g : Cmd × Nat → Option PV} (hg : ∀ c i, g (c, i) = if decide (c = .go (i + 1)) = true then some (nI i) else none) : ∀ (pre cs : List Cmd), (cs.zipIdx pre.length).filterMap g = ((List.range' pre.length cs.length).filter fun i => decide ((pre ++ cs)[i]? = some (.go (i + 1)))).map nI
  | pre, [] => rfl
  | pre, c :: cs => by
    rw [List.zipIdx_cons, List.filterMap_cons, List.length_cons, List.range'_succ, List.filter_cons, hg]
    have ih := zip_idles hg (pre ++ [c]) cs
    rw [List.length_append, List.length_singleton, List.append_assoc, List.singleton_append] at ih
    rw [ih]
    have : (pre ++ c :: cs)[pre.length]? = some c := by simp
    rw [this]
    by_cases h : c = .go (pre.length + 1)
    · subst h
      simp
    · have h2 : ¬ (some c = some (Cmd.go (pre.length + 1))) := fun e => h (Option.some.inj e)
      rw [if_neg (by simpa using h), if_neg (by simpa using h)]
theorem idle_ok (hlen : cs.length ≤ 1000) : callF PP (k + 1) G 6 [cds cs] S = .ok (.val (oI (idle cs))) S := by
  have hz : SZ = 16777216 := rfl
  have b1 : PV.belL 0 [cds cs] = true := by
    show ((cds cs).bel 0 && true) = true
    rw [cds_bel]; rfl
  have e := ev_lcG (gl := gl) (kd := kd) (F := callF PP k) (G := ⟨0, []⟩) (σ := [some (cds cs), none, none, none]) (S := []) (S1 := []) (e := CE.var 2) (t := Tg.tup [Tg.var 2, Tg.var 3]) (it := CI.enum (CE.var 0)) (ifs := [CE.cmp Cop.eq (CE.var 3) (CE.tup [CE.cst sGo, CE.bin Bop.add (CE.var 2) (CE.cst (PV.int (1)))])]) (own := [2, 3])
    (xs := cs.zipIdx 0) (h := fun p => .tup [nI p.2, p.1.pv]) (g := fun p => if decide (p.1 = .go (p.2 + 1)) = true then some (nI p.2) else none) (fr := [])
    (by rw [← enumL_map]; exact evI_enum (x := .val (cds cs)) (w := ⟨cs.map Cmd.pv, []⟩) (k := true) (ev_var rfl) rfl) (fun p _ => ?_) (by rw [List.length_zipIdx]; omega)
  · have z := zip_idles (g := fun p => if decide (p.1 = .go (p.2 + 1)) = true then some (nI p.2) else none) (fun c i => rfl) [] cs
    rw [List.length_nil] at z
    rw [z] at e
    change _ = R.ok (EV.tmp (PO.lst ((idles cs).map nI))) [] at e
    have fin : ∀ l : List Nat, exL gl kd (callF PP k) ⟨0, []⟩ (b6.drop 1) [some (cds cs), some (.ref 0), none, none] [.lst (l.map nI)] = .ok (.rt (.val (oI l.head?))) [.lst (l.map nI)] := by
      intro l
      cases l with
      | nil => kernel_rfl
      | cons a r => exact exL_rt (exS_ret ((ev_iteT (x := .val (.ref 0)) (ev_var rfl) rfl).trans (ev_idx (x := .val (.ref 0)) (y := .val (nI 0)) (ev_var rfl) ev_cst (idx_lst (xs := (a :: r).map nI) rfl rfl))))
    have f2 := fin (idles cs)
    rw [idles_head] at f2
    exact own_val (d := e6) (S' := [.lst ((idles cs).map nI)]) rfl rfl rfl b1 (by cases idle cs <;> rfl) ((exL_nx (exS_asg (evP_tmp e) rfl)).trans f2)
  · refine lcB_if (σ1 := [some (cds cs), none, some (nI p.2), some p.1.pv]) rfl (ev_cmp (x := .val p.1.pv) (y := .val (.tup [sGo, nI (p.2 + 1)])) (ev_var rfl) (by kernel_rfl) eq_go) fun _ => ev_var rfl
end
end K06
end partK06t

section partK06u
set_option linter.all false
set_option maxRecDepth 100000
/-! K06u: without_command, short_code. -/
namespace K06
open Mp
section
variable {cs : List Cmd} {k : Nat} {G : Grd} {S : Sto}
def body5 : List CS := [CS.ife (CE.cmp Cop.eq (CE.var 4) (CE.var 1)) [CS.cont] [],
      CS.asg (Tg.var 6) (CE.call 0 [CE.var 5, CE.cst sTo]),
      CS.ife (CE.cmp Cop.isn (CE.var 6) (CE.cst PV.non))
        [CS.asg (Tg.var 6) ((CE.cmp Cop.eq (CE.var 6) (CE.var 1)).ite (CE.var 2) (CE.var 6)),
          CS.asg (Tg.var 5)
            (CE.call 1 [CE.var 5, CE.bin Bop.sub (CE.var 6) (CE.blt Blt.int [CE.cmp Cop.gt (CE.var 6) (CE.var 1)])])]
        [],
      CS.exp (CE.mth Mth.append (CE.var 3) [CE.var 5])]
def env5 (cs : List Cmd) (i : Nat) (x y z : Option PV) : Env := [some (cds cs), some (nI i), some (nI (i + 1)), some (.ref 0), x, y, z]
def St5 (out : List Cmd) : Sto := [.lst (out.map Cmd.pv)]
theorem low_int {i t : Nat} : (.int (Int.ofNat (if t = i then i + 1 else t) - (if decide (Int.ofNat i < Int.ofNat (if t = i then i + 1 else t)) = true then 1 else 0)) : PV) = nI (low i t) := by
  show PV.int _ = PV.int _
  congr 1
  unfold low
  by_cases h : t = i
  · subst h
    rw [if_pos rfl, if_pos (by simp only [Int.ofNat_eq_natCast, decide_eq_true_eq]; omega), if_neg (by omega)]
    simp only [Int.ofNat_eq_natCast]
    omega
  · rw [if_neg h]
    by_cases h2 : i < t
    · rw [if_pos (by simp only [Int.ofNat_eq_natCast, decide_eq_true_eq]; omega), if_pos h2]
      simp only [Int.ofNat_eq_natCast]
      omega
    · rw [if_neg (by simp only [Int.ofNat_eq_natCast, decide_eq_true_eq]; omega), if_neg h2]
      simp
theorem app5 {F : FT} {σ : Env} {out : List Cmd} {c : Cmd} (h3 : σ[3]? = some (some (.ref 0))) (h5 : σ[5]? = some (some c.pv)) (hl : out.length < SZ) : exL gl kd F ⟨0, []⟩ [CS.exp (CE.mth Mth.append (CE.var 3) [CE.var 5])] σ (St5 out) = .ok (.nx σ) (St5 (out ++ [c])) := by
  refine (exL_nx (exS_exp (v := .val .non) (ev_mth (x := .val (.ref 0)) (ev_var h3) (k := true) rfl (evL_val (ev_var h5) evL_nil) ?_))).trans (by rw [exL])
  show (match (if (out.map Cmd.pv).length < SZ then some (PV.non, out.map Cmd.pv ++ [c.pv]) else none) with
    | some (v, xs') => (match put ⟨0, []⟩ 0 (.lst xs') (St5 out) with
      | some S' => R.ok (EV.val v) S'
      | none => .err)
    | none => .err) = _
  rw [if_pos (by rw [List.length_map]; exact hl)]
  unfold St5
  rw [List.map_append]
  rfl
theorem turn5 {i j : Nat} {c : Cmd} {z : Option PV} {out : List Cmd} (hl : out.length < SZ) : ∃ y' z', (j = i → exL gl kd (callF PP (k + 1)) ⟨0, []⟩ body5 (env5 cs i (some (nI j)) (some c.pv) z) (St5 out) = .ok (.ct (env5 cs i (some (nI j)) y' z')) (St5 out)) ∧
    (j ≠ i → exL gl kd (callF PP (k + 1)) ⟨0, []⟩ body5 (env5 cs i (some (nI j)) (some c.pv) z) (St5 out) = .ok (.nx (env5 cs i (some (nI j)) y' z')) (St5 (out ++ [c.via (low i)]))) := by
  have ht : tst gl kd (callF PP (k + 1)) ⟨0, []⟩ (CE.cmp Cop.eq (CE.var 4) (CE.var 1)) (env5 cs i (some (nI j)) (some c.pv) z) (St5 out) = .ok (decide (j = i)) (St5 out) :=
    tst_of (ev_cmp (x := .val (nI j)) (y := .val (nI i)) (ev_var rfl) (ev_var rfl) (k := decide (j = i)) (eq_nats (S := St5 out) j i)) rfl
  by_cases h : j = i
  · exact ⟨some c.pv, z, fun _ => exL_ct ((exS_ife ht).trans (by rw [if_pos (by simpa using h)]; rfl)), fun n => absurd h n⟩
  · have s1 : exS gl kd (callF PP (k + 1)) ⟨0, []⟩ (CS.ife (CE.cmp Cop.eq (CE.var 4) (CE.var 1)) [CS.cont] []) (env5 cs i (some (nI j)) (some c.pv) z) (St5 out) = .ok (.nx (env5 cs i (some (nI j)) (some c.pv) z)) (St5 out) :=
      (exS_ife ht).trans (by rw [if_neg (by simpa using h), exL])
    have s2 : exS gl kd (callF PP (k + 1)) ⟨0, []⟩ (CS.asg (Tg.var 6) (CE.call 0 [CE.var 5, CE.cst sTo])) (env5 cs i (some (nI j)) (some c.pv) z) (St5 out) = .ok (.nx (env5 cs i (some (nI j)) (some c.pv) (some (oI c.to)))) (St5 out) :=
      exS_asg (evP_val ((ev_call (evL_val (z := c.pv) (ev_var rfl) (evL_val (z := sTo) ev_cst evL_nil))).trans (part_to c))) rfl
    cases hc : c.to with
    | none =>
      rw [hc] at s2
      have hv : c.via (low i) = c := Cmd.via_id fun t ht' => by rw [hc] at ht'; cases ht'
      refine ⟨some c.pv, some .non, fun n => absurd n h, fun _ => ?_⟩
      rw [hv]
      refine (exL_nx s1).trans ((exL_nx s2).trans ((exL_nx (σ1 := env5 cs i (some (nI j)) (some c.pv) (some .non)) (S1 := St5 out) ((exS_ife (k := false) (tst_of (ev_cmp (x := .val .non) (y := .val .non) (ev_var rfl) ev_cst (k := false) rfl) rfl)).trans ?_)).trans (app5 rfl rfl hl)))
      rw [if_neg (by decide), exL]
      rfl
    | some t =>
      rw [hc] at s2
      refine ⟨some (c.via (low i)).pv, some (nI (if t = i then i + 1 else t)), fun n => absurd n h, fun _ => ?_⟩
      have s3 : exS gl kd (callF PP (k + 1)) ⟨0, []⟩ (CS.asg (Tg.var 6) ((CE.cmp Cop.eq (CE.var 6) (CE.var 1)).ite (CE.var 2) (CE.var 6))) (env5 cs i (some (nI j)) (some c.pv) (some (nI t))) (St5 out) = .ok (.nx (env5 cs i (some (nI j)) (some c.pv) (some (nI (if t = i then i + 1 else t))))) (St5 out) := by
        have hcm := ev_cmp (gl := gl) (kd := kd) (F := callF PP (k + 1)) (G := ⟨0, []⟩) (σ := env5 cs i (some (nI j)) (some c.pv) (some (nI t))) (S := St5 out) (x := .val (nI t)) (y := .val (nI i)) (a := CE.var 6) (b := CE.var 1) (o := .eq) (ev_var rfl) (ev_var rfl) (k := decide (t = i)) (eq_nats (S := St5 out) t i)
        refine exS_asg (evP_val ?_) rfl
        by_cases e : t = i
        · rw [if_pos e]
          exact (ev_iteT hcm (by rw [decide_eq_true e]; rfl)).trans (ev_var rfl)
        · rw [if_neg e]
          exact (ev_iteF hcm (by rw [decide_eq_false e]; rfl)).trans (ev_var rfl)
      have s4 : exS gl kd (callF PP (k + 1)) ⟨0, []⟩ (CS.asg (Tg.var 5) (CE.call 1 [CE.var 5, CE.bin Bop.sub (CE.var 6) (CE.blt Blt.int [CE.cmp Cop.gt (CE.var 6) (CE.var 1)])])) (env5 cs i (some (nI j)) (some c.pv) (some (nI (if t = i then i + 1 else t)))) (St5 out) = .ok (.nx (env5 cs i (some (nI j)) (some (c.via (low i)).pv) (some (nI (if t = i then i + 1 else t))))) (St5 out) := by
        refine exS_asg (evP_val ((ev_call (evL_val (z := c.pv) (ev_var rfl) (evL_val (z := nI (low i t)) ?_ evL_nil))).trans (with_to c (low i) t hc))) rfl
        generalize hu : (if t = i then i + 1 else t) = u
        have := low_int (i := i) (t := t)
        rw [hu] at this
        rw [← this]
        exact ev_bin (x := .val (nI u)) (y := .val (.int (if decide (Int.ofNat i < Int.ofNat u) = true then 1 else 0))) (ev_var rfl) (ev_blt1 (x := .val (.bl (decide (Int.ofNat i < Int.ofNat u)))) (ev_cmp (x := .val (nI u)) (y := .val (nI i)) (ev_var rfl) (ev_var rfl) rfl) rfl) rfl
      refine (exL_nx s1).trans ((exL_nx s2).trans ((exL_nx (σ1 := env5 cs i (some (nI j)) (some (c.via (low i)).pv) (some (nI (if t = i then i + 1 else t)))) (S1 := St5 out) ((exS_ife (k := true) (tst_of (ev_cmp (x := .val (nI t)) (y := .val .non) (ev_var rfl) ev_cst (k := true) rfl) rfl)).trans ?_)).trans (app5 rfl rfl hl)))
      rw [if_pos rfl]
      exact (exL_nx s3).trans ((exL_nx s4).trans (by rw [exL]))
def keep (i : Nat) (ps : List (Cmd × Nat)) : List Cmd := ps.filterMap fun p => if p.2 = i then none else some (p.1.via (low i))
theorem loop5 {i : Nat} : ∀ (ps : List (Cmd × Nat)) (out : List Cmd) (x y z : Option PV), out.length + ps.length < SZ →
    ∃ x' y' z', forF ⟨0, []⟩ (.tup [.var 4, .var 5]) (fun σ S => exL gl kd (callF PP (k + 1)) ⟨0, []⟩ body5 σ S) (ps.map fun p => .tup [nI p.2, p.1.pv]) (env5 cs i x y z) (St5 out) = .ok (.nx (env5 cs i x' y' z')) (St5 (out ++ keep i ps))
  | [], out, x, y, z, _ => ⟨x, y, z, by rw [show keep i [] = [] from rfl, List.append_nil]; rfl⟩
  | (c, j) :: ps, out, x, y, z, hl => by
    rw [List.length_cons] at hl
    obtain ⟨y1, z1, t1, t2⟩ := turn5 (cs := cs) (k := k) (i := i) (j := j) (c := c) (z := z) (out := out) (by omega)
    rw [List.map_cons]
    by_cases h : j = i
    · obtain ⟨x', y', z', e⟩ := loop5 (i := i) ps out (some (nI j)) y1 z1 (by omega)
      refine ⟨x', y', z', (forF_ct (σ1 := env5 cs i (some (nI j)) (some c.pv) z) rfl (t1 h)).trans (e.trans ?_)⟩
      unfold keep
      rw [List.filterMap_cons, if_pos h]
    · obtain ⟨x', y', z', e⟩ := loop5 (i := i) ps (out ++ [c.via (low i)]) (some (nI j)) y1 z1 (by simp; omega)
      refine ⟨x', y', z', (forF_nx (σ1 := env5 cs i (some (nI j)) (some c.pv) z) rfl (t2 h)).trans (e.trans ?_)⟩
      unfold keep
      rw [List.filterMap_cons, if_neg h, List.append_assoc]
      rfl
theorem keep_low {i : Nat} : ∀ (cs : List Cmd) (o : Nat), i < o → keep i (cs.zipIdx o) = cs.map (Cmd.via (low i))
  | [], _, _ => rfl
  | c :: cs, o, h => by
    unfold keep
    rw [List.zipIdx_cons, List.filterMap_cons, if_neg (by show ¬ o = i; omega)]
    exact congrArg (_ :: ·) (keep_low cs (o + 1) (by omega))
theorem keep_rem {i : Nat} : ∀ (cs : List Cmd) (o : Nat), o ≤ i → keep i (cs.zipIdx o) = (cs.eraseIdx (i - o)).map (Cmd.via (low i))
  | [], _, _ => rfl
  | c :: cs, o, h => by
    unfold keep
    rw [List.zipIdx_cons, List.filterMap_cons]
    by_cases e : o = i
    · subst e
      rw [if_pos rfl, Nat.sub_self]
      exact keep_low cs (o + 1) (by omega)
    · rw [if_neg e, show i - o = (i - (o + 1)) + 1 by omega]
      exact congrArg (_ :: ·) (keep_rem cs (o + 1) (by omega))
theorem without_ok {i : Nat} (hlen : cs.length ≤ 1000) : callF PP (k + 2) G 5 [cds cs, nI i, nI (i + 1)] S = .ok (.val (cds (rem cs i))) S := by
  have hz : SZ = 16777216 := rfl
  obtain ⟨x', y', z', e⟩ := loop5 (cs := cs) (k := k) (i := i) (cs.zipIdx 0) [] none none none (by rw [List.length_zipIdx, List.length_nil]; omega)
  have hk : keep i (cs.zipIdx 0) = rem cs i := keep_rem cs 0 (Nat.zero_le _)
  rw [List.nil_append, hk, ← enumL_map] at e
  refine own_val (d := e5) (S' := St5 (rem cs i)) rfl rfl rfl ?_ (cds_bel _) ?_
  · show ((cds cs).bel 0 && true) = true
    rw [cds_bel]; rfl
  · exact (exL_nx (σ1 := env5 cs i none none none) (S1 := St5 []) (by kernel_rfl)).trans ((exL_nx ((exS_frr (evI_enum (x := .val (cds cs)) (w := ⟨cs.map Cmd.pv, []⟩) (k := true) (ev_var rfl) rfl)).trans e)).trans (exL_rt (exS_ret (ev_blt1 (x := .val (.ref 0)) (ev_var rfl) rfl))))
end
end K06
end partK06u

section partK06v
set_option linter.all false
set_option maxRecDepth 100000
/-! K06v: short_code. -/
namespace K06
open Mp
section
variable {cs : List Cmd} {R : List Nat} {k : Nat} {G : Grd} {S : Sto}
theorem find_cnt : ∀ {R : List Nat} {t : Nat}, R.Pairwise (· < ·) → t ∈ R → ((R.map nI).findIdx? fun y => PV.eqv y (nI t)) = some (cnt R t)
  | [], _, _, h => by cases h
  | a :: R, t, hp, h => by
    have hp' := List.pairwise_cons.mp hp
    rw [List.map_cons, List.findIdx?_cons, nI_eqv, cnt_cons]
    by_cases e : a = t
    · subst e
      rw [if_pos (by simp), if_neg (Nat.lt_irrefl _), cnt_zero fun x hx => Nat.le_of_lt (hp'.1 x hx)]
    · have ht : t ∈ R := by
        rcases List.mem_cons.mp h with h | h
        · exact absurd h.symm e
        · exact h
      rw [if_neg (by simpa using e), find_cnt hp'.2 ht, if_pos (hp'.1 t ht)]
      show some (cnt R t + 1) = _
      congr 1
      omega
def env7 (cs : List Cmd) (R : List Nat) (x3 x4 x5 : Option PV) : Env := [some (code cs), some (.tup (R.map nI)), some (.ref 0), x3, x4, x5]
def body7 : List CS := [CS.asg (Tg.var 4) (((CE.var 0).idx (CE.cst (PV.int 1))).idx (CE.var 3)),
      CS.asg (Tg.var 5) (CE.call 0 [CE.var 4, CE.cst sTo]),
      CS.exp
        (CE.mth Mth.append (CE.var 2)
          [(CE.cmp Cop.is (CE.var 5) (CE.cst PV.non)).ite (CE.var 4)
              (CE.call 1 [CE.var 4, CE.mth Mth.index (CE.var 1) [CE.var 5]])])]
theorem turn7 (kp : Kept cs R) {a : Nat} {c : Cmd} (ha : a ∈ R) (hc : cs[a]? = some c) {x4 x5 : Option PV} {out : List Cmd} (hl : out.length < SZ) :
    exL gl kd (callF PP (k + 1)) ⟨0, []⟩ body7 (env7 cs R (some (nI a)) x4 x5) (St5 out) = .ok (.nx (env7 cs R (some (nI a)) (some c.pv) (some (oI c.to)))) (St5 (out ++ [c.via (cnt R)])) := by
  have s1 : exS gl kd (callF PP (k + 1)) ⟨0, []⟩ (CS.asg (Tg.var 4) (((CE.var 0).idx (CE.cst (PV.int 1))).idx (CE.var 3))) (env7 cs R (some (nI a)) x4 x5) (St5 out) = .ok (.nx (env7 cs R (some (nI a)) (some c.pv) x5)) (St5 out) :=
    exS_asg (evP_val (at_code hc rfl rfl)) rfl
  have s2 : exS gl kd (callF PP (k + 1)) ⟨0, []⟩ (CS.asg (Tg.var 5) (CE.call 0 [CE.var 4, CE.cst sTo])) (env7 cs R (some (nI a)) (some c.pv) x5) (St5 out) = .ok (.nx (env7 cs R (some (nI a)) (some c.pv) (some (oI c.to)))) (St5 out) :=
    exS_asg (evP_val ((ev_call (evL_val (z := c.pv) (ev_var rfl) (evL_val (z := sTo) ev_cst evL_nil))).trans (part_to c))) rfl
  have val : evE gl kd (callF PP (k + 1)) ⟨0, []⟩ ((CE.cmp Cop.is (CE.var 5) (CE.cst PV.non)).ite (CE.var 4) (CE.call 1 [CE.var 4, CE.mth Mth.index (CE.var 1) [CE.var 5]])) (env7 cs R (some (nI a)) (some c.pv) (some (oI c.to))) (St5 out) = .ok (.val (c.via (cnt R)).pv) (St5 out) := by
    cases ht : c.to with
    | none =>
      have hv : c.via (cnt R) = c := Cmd.via_id fun t h => by rw [ht] at h; cases h
      rw [hv]
      exact (ev_iteT (x := .val (.bl true)) (ev_cmp (x := .val .non) (y := .val .non) (ev_var rfl) ev_cst (k := true) rfl) rfl).trans (ev_var rfl)
    | some t =>
      have hm : t ∈ R := (kp.mem t).mpr (.step ((kp.mem a).mp ha) hc (mem_nxt.mpr (.inr ht)))
      refine (ev_iteF (x := .val (.bl false)) (ev_cmp (x := .val (nI t)) (y := .val .non) (ev_var rfl) ev_cst (k := false) rfl) rfl).trans ((ev_call (evL_val (z := c.pv) (ev_var rfl) (evL_val (z := nI (cnt R t)) (ev_mth (x := .val (.tup (R.map nI))) (ev_var rfl) (k := false) rfl (evL_val (z := nI t) (ev_var rfl) evL_nil) ?_) evL_nil))).trans (with_to c (cnt R) t ht))
      show (match (if (nI t).bel 0 = true ∧ PV.belL 0 (R.map nI) = true ∧ (nI t).dep ≤ 60 ∧ PV.depL (R.map nI) ≤ 59 then (R.map nI).findIdx? (fun y => PV.eqv y (nI t)) else none) with
        | some i => Mp.R.ok (EV.val (.int (i : Nat))) (St5 out)
        | none => Mp.R.err) = _
      rw [if_pos ⟨rfl, nI_belL _ _, by show 0 ≤ 60; decide, by rw [nI_depL]; decide⟩, find_cnt kp.sorted hm]
      rfl
  refine (exL_nx s1).trans ((exL_nx s2).trans ((exL_nx (exS_exp (v := .val .non) (ev_mth (x := .val (.ref 0)) (ev_var rfl) (k := true) rfl (evL_val val evL_nil) ?_))).trans (by rw [exL])))
  show (match (if (out.map Cmd.pv).length < SZ then some (PV.non, out.map Cmd.pv ++ [(c.via (cnt R)).pv]) else none) with
    | some (v, xs') => (match put ⟨0, []⟩ 0 (.lst xs') (St5 out) with
      | some S' => Mp.R.ok (EV.val v) S'
      | none => Mp.R.err)
    | none => Mp.R.err) = _
  rw [if_pos (by rw [List.length_map]; exact hl)]
  unfold St5
  rw [List.map_append]
  rfl
theorem loop7 (ok : OkC cs) (kp : Kept cs R) : ∀ (R' : List Nat) (out : List Cmd) (x3 x4 x5 : Option PV), (∀ x ∈ R', x ∈ R) → out.length + R'.length < SZ →
    ∃ y3 y4 y5, forF ⟨0, []⟩ (.var 3) (fun σ S => exL gl kd (callF PP (k + 1)) ⟨0, []⟩ body7 σ S) (R'.map nI) (env7 cs R x3 x4 x5) (St5 out) = .ok (.nx (env7 cs R y3 y4 y5)) (St5 (out ++ R'.filterMap fun a => (cs[a]?).map fun c => c.via (cnt R)))
  | [], out, x3, x4, x5, _, _ => ⟨x3, x4, x5, by rw [List.filterMap_nil, List.append_nil]; rfl⟩
  | a :: R', out, x3, x4, x5, hs, hl => by
    rw [List.length_cons] at hl
    have ha := hs a List.mem_cons_self
    have hac : cs[a]? = some (cs[a]'(kp.lt ok a ha)) := List.getElem?_eq_getElem _
    generalize cs[a]'(kp.lt ok a ha) = c at hac
    obtain ⟨y3, y4, y5, e⟩ := loop7 ok kp R' (out ++ [c.via (cnt R)]) (some (nI a)) (some c.pv) (some (oI c.to)) (fun x hx => hs x (List.mem_cons_of_mem _ hx)) (by simp; omega)
    refine ⟨y3, y4, y5, ?_⟩
    rw [List.map_cons, List.filterMap_cons, hac]
    refine (forF_nx (σ1 := env7 cs R (some (nI a)) x4 x5) rfl (turn7 kp ha hac (by omega))).trans (e.trans ?_)
    rw [List.append_assoc]
    rfl
def env7b (cs : List Cmd) (R : List Nat) (ds : List Cmd) (x4 x5 : Option PV) : Env := [some (code cs), some (.tup (R.map nI)), some (cds ds), some (oI (idle ds)), x4, x5]
def whl7 : List CS := [CS.asg (Tg.var 2) (CE.call 5 [CE.var 2, CE.var 3, CE.bin Bop.add (CE.var 3) (CE.cst (PV.int (1)))]),
      CS.asg (Tg.var 3) (CE.call 6 [CE.var 2])]
theorem while7 {x4 x5 : Option PV} : ∀ (n fuel : Nat) (ds : List Cmd), OkC ds → ds.length ≤ n → ds.length ≤ 1000 → n < fuel →
    whlF (fun σ S => tst gl kd (callF PP (k + 2)) ⟨0, []⟩ (CE.cmp Cop.isn (CE.var 3) (CE.cst PV.non)) σ S) (fun σ S => exL gl kd (callF PP (k + 2)) ⟨0, []⟩ whl7 σ S) fuel (env7b cs R ds x4 x5) S = .ok (.nx (env7b cs R (shorten n ds) x4 x5)) S
  | n, 0, ds, _, _, _, h => absurd h (Nat.not_lt_zero _)
  | 0, fuel + 1, ds, ok, h, _, _ => by have := ok.pos; omega
  | n + 1, fuel + 1, ds, ok, h, h1000, hf => by
    unfold shorten
    cases e : idle ds with
    | none =>
      refine whlF_end (tst_of (ev_cmp (x := .val .non) (y := .val .non) (ev_var ?_) ev_cst (k := false) rfl) rfl)
      show some (some (oI (idle ds))) = _
      rw [e]; rfl
    | some i =>
      have hg := idle_some e
      have hi := (List.getElem?_eq_some_iff.mp hg).1
      have h3 : (env7b cs R ds x4 x5)[3]? = some (some (nI i)) := by
        show some (some (oI (idle ds))) = _
        rw [e]; rfl
      have hr := rem_len (cs := ds) hi
      have hw := while7 (x4 := x4) (x5 := x5) n fuel (rem ds i) (rem_ok ok hg) (by omega) (by omega) (by omega)
      dsimp only
      rw [← hw]
      refine whlF_go (tst_of (ev_cmp (x := .val (nI i)) (y := .val .non) (ev_var h3) ev_cst (k := true) rfl) rfl) ?_
      exact (exL_nx (σ1 := [some (code cs), some (.tup (R.map nI)), some (cds (rem ds i)), some (oI (idle ds)), x4, x5]) (exS_asg (evP_val ((ev_call (evL_val (z := cds ds) (ev_var rfl) (evL_val (z := nI i) (ev_var h3) (evL_val (z := nI (i + 1)) (ev_bin (x := .val (nI i)) (y := .val (.int 1)) (ev_var h3) ev_cst rfl) evL_nil)))).trans (without_ok h1000))) rfl)).trans
        ((exL_nx (exS_asg (evP_val ((ev_call (evL_val (z := cds (rem ds i)) (ev_var rfl) evL_nil)).trans (idle_ok (by omega)))) rfl)).trans (by rw [exL]; rfl))
theorem short_prog (ok : OkC cs) (hlen : cs.length ≤ 1000) (kp : Kept cs R) : callF PP (k + 4) G 7 [code cs] S = .ok (.val (code (short cs R))) S := by
  have hz : SZ = 16777216 := rfl
  have hf : FUEL = 1000000000 := rfl
  have hR := nodup_len (kp.sorted.imp (fun h => Nat.ne_of_lt h)) (kp.lt ok)
  have h1 := led1_ok ok kp
  have h2 := led1_len ok kp
  obtain ⟨y3, y4, y5, e⟩ := loop7 (k := k + 2) ok kp R [] none none none (fun _ h => h) (by rw [List.length_nil]; omega)
  rw [List.nil_append] at e
  change _ = Mp.R.ok (Fl.nx (env7 cs R y3 y4 y5)) (St5 (led1 cs R)) at e
  have hw := while7 (k := k + 1) (cs := cs) (R := R) (S := St5 (led1 cs R)) (x4 := y4) (x5 := y5) (led1 cs R).length FUEL (led1 cs R) h1 (Nat.le_refl _) (by omega) (by omega)
  refine own_val (d := e7) (S' := St5 (led1 cs R)) rfl rfl rfl (bel_code1 cs) (code_bel _) ?_
  refine (exL_nx (σ1 := [some (code cs), some (.tup (R.map nI)), none, none, none, none]) (S1 := []) (exS_asg (evP_val ((ev_call (evL_val (z := code cs) (ev_var rfl) evL_nil)).trans (reached_ok ok hlen kp))) rfl)).trans ?_
  refine (exL_nx (σ1 := env7 cs R none none none) (S1 := St5 []) (exS_asg (evP_tmp (ev_lst evL_nil (by show 0 ≤ SZ; decide))) rfl)).trans ?_
  refine (exL_nx ((exS_frr (evI_exp (x := .val (.tup (R.map nI))) (w := ⟨R.map nI, []⟩) (ev_var rfl) rfl)).trans e)).trans ?_
  refine (exL_nx (σ1 := [some (code cs), some (.tup (R.map nI)), some (cds (led1 cs R)), y3, y4, y5]) (S1 := St5 (led1 cs R)) (exS_asg (evP_val (ev_blt1 (x := .val (.ref 0)) (ev_var rfl) rfl)) rfl)).trans ?_
  refine (exL_nx (σ1 := env7b cs R (led1 cs R) y4 y5) (S1 := St5 (led1 cs R)) (exS_asg (evP_val ((ev_call (evL_val (z := cds (led1 cs R)) (ev_var rfl) evL_nil)).trans (idle_ok (by omega)))) rfl)).trans ?_
  refine (exL_nx (exS_whl.trans hw)).trans (exL_rt (exS_ret (ev_tup (evL_val (z := .tup [.int 2]) (ev_idx (x := .val (code cs)) (ev_var rfl) ev_cst rfl) (evL_val (z := cds (short cs R)) (ev_var rfl) evL_nil)) (by show 2 ≤ SZ; decide))))
end
end K06
end partK06v

section partK06w
set_option linter.all false
set_option maxRecDepth 100000
/-! K06w: _law_short. -/
namespace K06
open Mp
theorem range_zip {β : Type} {g : Cmd → Nat → Option β} : ∀ (pre ds : List Cmd), (List.range' pre.length ds.length).filterMap (fun a => ((pre ++ ds)[a]?).bind fun c => g c a) = (ds.zipIdx pre.length).filterMap fun p => g p.1 p.2
  | pre, [] => rfl
  | pre, c :: ds => by
    have ih := range_zip (g := g) (pre ++ [c]) ds
    rw [List.length_append, List.length_singleton, List.append_assoc, List.singleton_append] at ih
    have e : (pre ++ c :: ds)[pre.length]? = some c := by simp
    rw [List.length_cons, List.range'_succ, List.filterMap_cons, List.zipIdx_cons, List.filterMap_cons, e, ih]
    rfl
theorem range_rem (ds : List Cmd) (i : Nat) : (List.range' 0 ds.length).filterMap (fun a => if decide (a ≠ i) = true then (ds[a]?).map fun c => (c.via (low i)).pv else none) = (rem ds i).map Cmd.pv := by
  have h := range_zip (g := fun c a => if a = i then none else some (c.via (low i))) [] ds
  have hk : keep i (ds.zipIdx 0) = rem ds i := keep_rem ds 0 (Nat.zero_le _)
  rw [← hk]
  unfold keep
  rw [show (ds.zipIdx 0).filterMap (fun p => if p.2 = i then none else some (p.1.via (low i))) = (ds.zipIdx ([] : List Cmd).length).filterMap (fun p => (fun c a => if a = i then none else some (c.via (low i))) p.1 p.2) from rfl, ← h, List.map_filterMap]
  refine congrArg (fun g => List.filterMap g (List.range' 0 ds.length)) (funext fun a => ?_)
  show _ = Option.map Cmd.pv (((([] : List Cmd) ++ ds)[a]?).bind _)
  rw [List.nil_append]
  by_cases e : a = i
  · subst e
    rw [if_neg (by simp)]
    cases ds[a]? <;> simp
  · rw [if_pos (by simpa using e)]
    cases ds[a]? with
    | none => rfl
    | some c => simp [e]
section
variable {cs : List Cmd} {R : List Nat} {k : Nat} {G : Grd} {S : Sto}
theorem low_int2 {i t : Nat} : (.int (Int.ofNat t - (if decide (Int.ofNat i < Int.ofNat t) = true then 1 else 0)) : PV) = nI (low i t) := by
  show PV.int _ = PV.int _
  congr 1
  unfold low
  by_cases h2 : i < t
  · rw [if_pos (by simp only [Int.ofNat_eq_natCast, decide_eq_true_eq]; omega), if_pos h2]
    simp only [Int.ofNat_eq_natCast]
    omega
  · rw [if_neg (by simp only [Int.ofNat_eq_natCast, decide_eq_true_eq]; omega), if_neg h2]
    simp
def env23 (cs : List Cmd) (n2 p : Nat) (x4 x5 x6 x7 : Option PV) : Env := [some (code cs), some (.ref 0), some (.ref n2), some (.ref p), x4, x5, x6, x7]
def tIdle : CE := (CE.cmp Cop.eq (((CE.var 3).idx (CE.var 6)).idx (CE.cst (PV.int (0)))) (CE.cst sGo)).and
              (CE.cmp Cop.eq (((CE.var 3).idx (CE.var 6)).idx (CE.cst (PV.int (1)))) (CE.bin Bop.add (CE.var 6) (CE.cst (PV.int (1)))))
theorem ev_idle {F : FT} {ds : List Cmd} {n2 p a : Nat} {c : Cmd} {x4 x5 x7 : Option PV} (hp : S[p]? = some (.lst (ds.map Cmd.pv))) (hc : ds[a]? = some c) :
    evE gl kd F G tIdle (env23 cs n2 p x4 x5 (some (nI a)) x7) S = .ok (.val (.bl (decide (c = .go (a + 1))))) S := by
  have e0 : evE gl kd F G ((CE.var 3).idx (CE.var 6)) (env23 cs n2 p x4 x5 (some (nI a)) x7) S = .ok (.val c.pv) S := ev_idx (x := .val (.ref p)) (y := .val (nI a)) (ev_var rfl) (ev_var rfl) (idx_lst hp (cds_get hc))
  cases c with
  | go t =>
    refine (ev_andT (x := .val (.bl true)) (S1 := S) (ev_cmp (x := .val sGo) (y := .val sGo) (ev_idx e0 ev_cst rfl) ev_cst (k := true) (by kernel_rfl)) rfl).trans ?_
    have h : decide (Cmd.go t = Cmd.go (a + 1)) = decide (t = a + 1) := by
      by_cases e : t = a + 1
      · subst e; simp
      · rw [decide_eq_false e, decide_eq_false fun z => e (Cmd.go.inj z)]
    rw [h]
    exact ev_cmp (x := .val (nI t)) (y := .val (nI (a + 1))) (ev_idx e0 ev_cst rfl) (ev_bin (x := .val (nI a)) (y := .val (.int 1)) (ev_var rfl) ev_cst rfl) (eq_nats (S := S) t (a + 1))
  | _ =>
    rw [decide_eq_false (by intro z; cases z)]
    refine ev_andF (x := .val (.bl false)) (S1 := S) (ev_cmp (x := .val _) (y := .val sGo) (ev_idx e0 ev_cst rfl) ev_cst (k := false) (by kernel_rfl)) rfl
theorem len_ref {F : FT} {σ : Env} {i l : Nat} {xs : List PV} (h : σ[i]? = some (some (.ref l))) (hl : S[l]? = some (.lst xs)) : evE gl kd F G (CE.blt Blt.len [CE.var i]) σ S = .ok (.val (nI xs.length)) S :=
  ev_blt1 (x := .val (.ref l)) (ev_var h) (len_lst hl)
def body23 : List CS := [CS.asg (Tg.var 5) ((CE.var 6).lc (Tg.var 6) (CI.rng1 (CE.blt Blt.len [CE.var 3])) [tIdle] [6]),
      CS.ife (CE.cmp Cop.eq (CE.blt Blt.len [CE.var 5]) (CE.cst (PV.int (0)))) [CS.brk] [],
      CS.asg (Tg.var 2)
        ((CE.bin Bop.sub (CE.var 6)
              (CE.blt Blt.int [CE.cmp Cop.gt (CE.var 6) ((CE.var 5).idx (CE.cst (PV.int (0))))])).lc
          (Tg.var 6) (CI.rng1 (CE.blt Blt.len [CE.var 3])) [] [6]),
      CS.asg (Tg.var 3)
        ((CE.call 22 [(CE.var 3).idx (CE.var 6), CE.var 2]).lc (Tg.var 6) (CI.rng1 (CE.blt Blt.len [CE.var 3]))
          [CE.cmp Cop.ne (CE.var 6) ((CE.var 5).idx (CE.cst (PV.int (0))))] [6])]
theorem turn23 {ds : List Cmd} {n2 p : Nat} {x4 x5 x6 x7 : Option PV} (ok : OkC ds) (hp : S[p]? = some (.lst (ds.map Cmd.pv))) (hl : ds.length ≤ 1000) :
    (idle ds = none → ∃ y5 S', exL gl kd (callF PP (k + 1)) ⟨0, []⟩ body23 (env23 cs n2 p x4 x5 x6 x7) S = .ok (.bk (env23 cs n2 p x4 y5 x6 x7)) S' ∧ S'[p]? = some (.lst (ds.map Cmd.pv))) ∧
    (∀ i, idle ds = some i → ∃ n2' p' y5 S', exL gl kd (callF PP (k + 1)) ⟨0, []⟩ body23 (env23 cs n2 p x4 x5 x6 x7) S = .ok (.nx (env23 cs n2' p' x4 y5 x6 x7)) S' ∧ S'[p']? = some (.lst ((rem ds i).map Cmd.pv))) := by
  have hz : SZ = 16777216 := rfl
  have len3 : ∀ {S : Sto} {F : FT} {G : Grd} {n2 : Nat} {x4 x5 x6 x7 : Option PV}, S[p]? = some (.lst (ds.map Cmd.pv)) → evI gl kd F G (CI.rng1 (CE.blt Blt.len [CE.var 3])) (env23 cs n2 p x4 x5 x6 x7) S = .ok ⟨(List.range' 0 ds.length).map nI, []⟩ S := by
    intro S F G n2 x4 x5 x6 x7 h
    have := len_ref (F := F) (G := G) (σ := env23 cs n2 p x4 x5 x6 x7) (i := 3) rfl h
    rw [List.length_map] at this
    exact evI_rng1 (j := Int.ofNat ds.length) this (rngW_nat (by omega))
  have lt : ∀ a ∈ List.range' 0 ds.length, a < ds.length := fun a ha => by simpa using ha
  have e1 := ev_lcG (gl := gl) (kd := kd) (F := callF PP (k + 1)) (G := ⟨0, []⟩) (σ := env23 cs n2 p x4 x5 x6 x7) (S := S) (S1 := S) (e := CE.var 6) (t := Tg.var 6) (it := CI.rng1 (CE.blt Blt.len [CE.var 3])) (ifs := [tIdle]) (own := [6])
    (xs := List.range' 0 ds.length) (h := nI) (g := fun a => if decide (ds[a]? = some (.go (a + 1))) = true then some (nI a) else none) (fr := []) (len3 hp) (fun a ha => ?_) (by rw [List.length_range']; omega)
  · rw [filterMap_if] at e1
    change _ = Mp.R.ok (EV.tmp (PO.lst ((idles ds).map nI))) S at e1
    have s1 := exS_asg (t := Tg.var 5) (σ1 := env23 cs n2 p x4 (some (.ref S.length)) x6 x7) (evP_tmp e1) rfl
    have hp1 : (S ++ [PO.lst ((idles ds).map nI)])[p]? = some (.lst (ds.map Cmd.pv)) := get_old hp
    generalize hS1 : S ++ [PO.lst ((idles ds).map nI)] = S1 at s1 hp1
    have hn1 : S1[S.length]? = some (.lst ((idles ds).map nI)) := by rw [← hS1]; exact get_new
    have ht := tst_of (gl := gl) (kd := kd) (F := callF PP (k + 1)) (G := ⟨0, []⟩) (ev_cmp (o := .eq) (x := .val (nI ((idles ds).map nI).length)) (y := .val (nI 0)) (len_ref (σ := env23 cs n2 p x4 (some (.ref S.length)) x6 x7) (i := 5) rfl hn1) ev_cst (k := decide (((idles ds).map nI).length = 0)) (eq_nats (S := S1) _ _)) rfl
    refine ⟨fun hi => ⟨some (.ref S.length), S1, (exL_nx s1).trans (exL_bk (σ1 := env23 cs n2 p x4 (some (.ref S.length)) x6 x7) (S1 := S1) ((exS_ife ht).trans ?_)), hp1⟩, fun i hi => ?_⟩
    · have : idles ds = [] := by
        have h := idles_head ds
        rw [hi] at h
        exact List.head?_eq_none_iff.mp h
      rw [if_pos (by rw [this]; rfl)]
      rfl
    · obtain ⟨rest, hrest⟩ : ∃ r, idles ds = i :: r := by
        have h := idles_head ds
        rw [hi] at h
        cases hx : idles ds with
        | nil => rw [hx] at h; cases h
        | cons y r => rw [hx] at h; cases h; exact ⟨r, rfl⟩
      have s2 : exS gl kd (callF PP (k + 1)) ⟨0, []⟩ (CS.ife (CE.cmp Cop.eq (CE.blt Blt.len [CE.var 5]) (CE.cst (PV.int (0)))) [CS.brk] []) (env23 cs n2 p x4 (some (.ref S.length)) x6 x7) S1 = .ok (.nx (env23 cs n2 p x4 (some (.ref S.length)) x6 x7)) S1 :=
        (exS_ife ht).trans (by rw [if_neg (by rw [hrest]; simp), exL])
      have first : ∀ {S : Sto} {F : FT} {G : Grd} {n2 l : Nat} {x4 x6 x7 : Option PV}, S[l]? = some (.lst ((idles ds).map nI)) → evE gl kd F G ((CE.var 5).idx (CE.cst (PV.int (0)))) (env23 cs n2 p x4 (some (.ref l)) x6 x7) S = .ok (.val (nI i)) S := by
        intro S F G n2 l x4 x6 x7 h
        exact ev_idx (x := .val (.ref l)) (y := .val (nI 0)) (ev_var rfl) ev_cst (idx_lst h (by rw [hrest]; rfl))
      have e3 := ev_lcG (gl := gl) (kd := kd) (F := callF PP (k + 1)) (G := ⟨0, []⟩) (σ := env23 cs n2 p x4 (some (.ref S.length)) x6 x7) (S := S1) (S1 := S1) (e := CE.bin Bop.sub (CE.var 6) (CE.blt Blt.int [CE.cmp Cop.gt (CE.var 6) ((CE.var 5).idx (CE.cst (PV.int (0))))])) (t := Tg.var 6) (it := CI.rng1 (CE.blt Blt.len [CE.var 3])) (ifs := []) (own := [6])
        (xs := List.range' 0 ds.length) (h := nI) (g := fun a => some (nI (low i a))) (fr := []) (len3 hp1) (fun a ha => lcB_all (σ1 := env23 cs n2 p x4 (some (.ref S.length)) (some (nI a)) x7) rfl (by
          rw [← low_int2]
          exact ev_bin (x := .val (nI a)) (y := .val (.int (if decide (Int.ofNat i < Int.ofNat a) = true then 1 else 0))) (ev_var rfl) (ev_blt1 (x := .val (.bl (decide (Int.ofNat i < Int.ofNat a)))) (ev_cmp (x := .val (nI a)) (y := .val (nI i)) (ev_var rfl) (first hn1) rfl) rfl) rfl)) (by rw [List.length_range']; omega)
      have en : (List.range' 0 ds.length).filterMap (fun a => some (nI (low i a))) = ((List.range' 0 ds.length).map (low i)).map nI := by
        rw [List.map_map]
        exact congrFun (List.filterMap_eq_map (f := nI ∘ low i)) _
      rw [en] at e3
      have s3 := exS_asg (t := Tg.var 2) (σ1 := env23 cs S1.length p x4 (some (.ref S.length)) x6 x7) (evP_tmp e3) rfl
      have hp2 : (S1 ++ [PO.lst (((List.range' 0 ds.length).map (low i)).map nI)])[p]? = some (.lst (ds.map Cmd.pv)) := get_old hp1
      have hn2 : (S1 ++ [PO.lst (((List.range' 0 ds.length).map (low i)).map nI)])[S.length]? = some (.lst ((idles ds).map nI)) := get_old hn1
      generalize hS2 : S1 ++ [PO.lst (((List.range' 0 ds.length).map (low i)).map nI)] = S2 at s3 hp2 hn2
      have hq2 : S2[S1.length]? = some (.lst (((List.range' 0 ds.length).map (low i)).map nI)) := by rw [← hS2]; exact get_new
      have e4 := ev_lcG (gl := gl) (kd := kd) (F := callF PP (k + 1)) (G := ⟨0, []⟩) (σ := env23 cs S1.length p x4 (some (.ref S.length)) x6 x7) (S := S2) (S1 := S2) (e := CE.call 22 [(CE.var 3).idx (CE.var 6), CE.var 2]) (t := Tg.var 6) (it := CI.rng1 (CE.blt Blt.len [CE.var 3])) (ifs := [CE.cmp Cop.ne (CE.var 6) ((CE.var 5).idx (CE.cst (PV.int (0))))]) (own := [6])
        (xs := List.range' 0 ds.length) (h := nI) (g := fun a => if decide (a ≠ i) = true then (ds[a]?).map fun c => (c.via (low i)).pv else none) (fr := []) (len3 hp2) (fun a ha => ?_) (by rw [List.length_range']; omega)
      · rw [range_rem] at e4
        exact ⟨S1.length, S2.length, some (.ref S.length), S2 ++ [PO.lst ((rem ds i).map Cmd.pv)], (exL_nx s1).trans ((exL_nx s2).trans ((exL_nx s3).trans ((exL_nx (exS_asg (t := Tg.var 3) (σ1 := env23 cs S1.length S2.length x4 (some (.ref S.length)) x6 x7) (evP_tmp e4) rfl)).trans (by rw [exL])))), get_new⟩
      · have hlt := lt a ha
        have hc := List.getElem?_eq_getElem hlt
        generalize ds[a] = c at hc
        rw [hc, Option.map_some]
        have hcm : evE gl kd (callF PP (k + 1)) ⟨0, []⟩ (CE.cmp Cop.ne (CE.var 6) ((CE.var 5).idx (CE.cst (PV.int (0))))) (env23 cs S1.length p x4 (some (.ref S.length)) (some (nI a)) x7) S2 = .ok (.val (.bl (decide (a ≠ i)))) S2 := by
          refine ev_cmp (x := .val (nI a)) (y := .val (nI i)) (ev_var rfl) (first hn2) ?_
          show (eqE (.val (nI a)) (.val (nI i)) S2).map not = _
          rw [eq_nats]
          show some (!decide (a = i)) = some (decide (a ≠ i))
          by_cases e : a = i <;> simp [e]
        exact lcB_if (σ1 := env23 cs S1.length p x4 (some (.ref S.length)) (some (nI a)) x7) rfl hcm fun _ => (ev_call (evL_val (z := c.pv) (ev_idx (x := .val (.ref p)) (y := .val (nI a)) (ev_var rfl) (ev_var rfl) (idx_lst hp2 (cds_get hc))) (evL_val (z := .ref S1.length) (ev_var rfl) evL_nil))).trans (led_ok hq2 fun t ht => by
          have := ok.to a c hc t ht
          simp [this])
  · have hlt := lt a ha
    have hc := List.getElem?_eq_getElem hlt
    generalize ds[a] = c at hc
    refine lcB_if (σ1 := env23 cs n2 p x4 x5 (some (nI a)) x7) rfl ?_ fun _ => ev_var rfl
    rw [hc]
    have h : decide (some c = some (Cmd.go (a + 1))) = decide (c = .go (a + 1)) := by
      by_cases e : c = .go (a + 1)
      · subst e; simp
      · rw [decide_eq_false e, decide_eq_false fun z => e (Option.some.inj z)]
    rw [h]
    exact ev_idle hp hc
theorem loop23 : ∀ (m o : Nat) (ds : List Cmd) (S : Sto) (n2 p : Nat) (x4 x5 x6 x7 : Option PV), OkC ds → ds.length ≤ 1000 → S[p]? = some (.lst (ds.map Cmd.pv)) →
    ∃ n2' p' y4 y5 S', forF ⟨0, []⟩ (.var 4) (fun σ S => exL gl kd (callF PP (k + 1)) ⟨0, []⟩ body23 σ S) ((List.range' o m).map nI) (env23 cs n2 p x4 x5 x6 x7) S = .ok (.nx (env23 cs n2' p' y4 y5 x6 x7)) S' ∧ S'[p']? = some (.lst ((shorten m ds).map Cmd.pv))
  | 0, o, ds, S, n2, p, x4, x5, x6, x7, _, _, hp => ⟨n2, p, x4, x5, S, rfl, hp⟩
  | m + 1, o, ds, S, n2, p, x4, x5, x6, x7, ok, hl, hp => by
    obtain ⟨h1, h2⟩ := turn23 (cs := cs) (k := k) (n2 := n2) (x4 := some (nI o)) (x5 := x5) (x6 := x6) (x7 := x7) ok hp hl
    rw [List.range'_succ, List.map_cons]
    unfold shorten
    cases e : idle ds with
    | none =>
      obtain ⟨y5, S', q1, q2⟩ := h1 e
      exact ⟨n2, p, some (nI o), y5, S', forF_bk (σ1 := env23 cs n2 p (some (nI o)) x5 x6 x7) rfl q1, q2⟩
    | some i =>
      obtain ⟨n2', p', y5, S', q1, q2⟩ := h2 i e
      have hg := idle_some e
      have hi := (List.getElem?_eq_some_iff.mp hg).1
      obtain ⟨n3, p3, y4, y6, S3, q3, q4⟩ := loop23 m (o + 1) (rem ds i) S' n2' p' (some (nI o)) y5 x6 x7 (rem_ok ok hg) (by rw [rem_len hi]; omega) q2
      exact ⟨n3, p3, y4, y6, S3, (forF_nx (σ1 := env23 cs n2 p (some (nI o)) x5 x6 x7) rfl q1).trans q3, q4⟩
theorem shorten_more : ∀ (n m : Nat) (ds : List Cmd), OkC ds → ds.length ≤ n → ds.length ≤ m → shorten n ds = shorten m ds
  | 0, _, ds, ok, h, _ => by have := ok.pos; omega
  | _ + 1, 0, ds, ok, _, h => by have := ok.pos; omega
  | n + 1, m + 1, ds, ok, h, h' => by
    unfold shorten
    cases e : idle ds with
    | none => rfl
    | some i =>
      have hg := idle_some e
      have hi := (List.getElem?_eq_some_iff.mp hg).1
      exact shorten_more n m (rem ds i) (rem_ok ok hg) (by rw [rem_len hi]; omega) (by rw [rem_len hi]; omega)
theorem lshort_prog (ok : OkC cs) (hlen : cs.length ≤ 1000) (kp : Kept cs R) : callF PP (k + 3) G 23 [code cs] S = .ok (.val (code (short cs R))) S := by
  have hz : SZ = 16777216 := rfl
  have hR := nodup_len (kp.sorted.imp (fun h => Nat.ne_of_lt h)) (kp.lt ok)
  have h1 := led1_ok ok kp
  have h2 := led1_len ok kp
  let σ0 : Env := [some (code cs), some (.ref 0), none, none, none, none, none, none]
  have s1 : exS gl kd (callF PP (k + 2)) ⟨0, []⟩ (CS.asg (Tg.var 1) (CE.call 21 [(CE.var 0).idx (CE.cst (PV.int 1))])) (startE 8 [code cs]) [] = .ok (.nx σ0) [.lst (R.map nI)] :=
    exS_asg (evP_tmp ((ev_call (evL_val (z := cds cs) (ev_code1 rfl) evL_nil)).trans (lreached_ok ok hlen kp))) rfl
  -- numbers
  have e2 := ev_lcG (gl := gl) (kd := kd) (F := callF PP (k + 2)) (G := ⟨0, []⟩) (σ := σ0) (S := [.lst (R.map nI)]) (S1 := [.lst (R.map nI)]) (e := CE.blt Blt.len [(CE.var 7).lc (Tg.var 7) (CI.exp (CE.var 1)) [CE.cmp Cop.lt (CE.var 7) (CE.var 6)] [7]]) (t := Tg.var 6) (it := CI.rng1 (CE.blt Blt.len [(CE.var 0).idx (CE.cst (PV.int (1)))])) (ifs := []) (own := [6])
    (xs := List.range' 0 cs.length) (h := nI) (g := fun a => some (nI (cnt R a))) (fr := []) (evI_rng1 (j := Int.ofNat cs.length) (len_code rfl) (rngW_nat (by omega))) (fun a ha => lcB_all (σ1 := [some (code cs), some (.ref 0), none, none, none, none, some (nI a), none]) rfl (by
      have e := ev_lcG (gl := gl) (kd := kd) (F := callF PP (k + 2)) (G := ⟨0, []⟩) (σ := [some (code cs), some (.ref 0), none, none, none, none, some (nI a), none]) (S := [.lst (R.map nI)]) (S1 := [.lst (R.map nI)]) (e := CE.var 7) (t := Tg.var 7) (it := CI.exp (CE.var 1)) (ifs := [CE.cmp Cop.lt (CE.var 7) (CE.var 6)]) (own := [7])
        (xs := R) (h := nI) (g := fun x => if decide (x < a) = true then some (nI x) else none) (fr := [0]) (evI_exp (x := .val (.ref 0)) (ev_var rfl) rfl) (fun x _ => lcB_if (σ1 := [some (code cs), some (.ref 0), none, none, none, none, some (nI a), some (nI x)]) rfl (ev_cmp (x := .val (nI x)) (y := .val (nI a)) (ev_var rfl) (ev_var rfl) (by
          show some (decide ((x : Int) < (a : Int))) = _
          by_cases q : x < a
          · rw [decide_eq_true q, decide_eq_true (by omega)]
          · rw [decide_eq_false q, decide_eq_false (by omega)])) fun _ => ev_var rfl) (by omega)
      rw [filterMap_if] at e
      refine ev_blt1 (x := .tmp (.lst ((R.filter fun x => decide (x < a)).map nI))) e ?_
      show some (EV.val (.int (((R.filter fun x => decide (x < a)).map nI).length : Nat))) = _
      rw [List.length_map]
      rfl)) (by rw [List.length_range']; omega)
  have en : (List.range' 0 cs.length).filterMap (fun a => some (nI (cnt R a))) = ((List.range' 0 cs.length).map (cnt R)).map nI := by
    rw [List.map_map]
    exact congrFun (List.filterMap_eq_map (f := nI ∘ cnt R)) _
  rw [en] at e2
  have s2 := exS_asg (t := Tg.var 2) (σ1 := [some (code cs), some (.ref 0), some (.ref 1), none, none, none, none, none]) (evP_tmp e2) rfl
  -- commands
  have e3 := ev_lcG (gl := gl) (kd := kd) (F := callF PP (k + 2)) (G := ⟨0, []⟩) (σ := [some (code cs), some (.ref 0), some (.ref 1), none, none, none, none, none]) (S := [.lst (R.map nI), .lst (((List.range' 0 cs.length).map (cnt R)).map nI)]) (S1 := [.lst (R.map nI), .lst (((List.range' 0 cs.length).map (cnt R)).map nI)]) (e := CE.call 22 [((CE.var 0).idx (CE.cst (PV.int (1)))).idx (CE.var 6), CE.var 2]) (t := Tg.var 6) (it := CI.exp (CE.var 1)) (ifs := []) (own := [6])
    (xs := R) (h := nI) (g := fun a => (cs[a]?).map fun c => (c.via (cnt R)).pv) (fr := [0]) (evI_exp (x := .val (.ref 0)) (ev_var rfl) rfl) (fun a ha => by
      have hlt := kp.lt ok a ha
      have hc := List.getElem?_eq_getElem hlt
      generalize cs[a] = c at hc
      rw [hc, Option.map_some]
      refine lcB_all (σ1 := [some (code cs), some (.ref 0), some (.ref 1), none, none, none, some (nI a), none]) rfl ((ev_call (evL_val (z := c.pv) (at_code hc rfl rfl) (evL_val (z := .ref 1) (ev_var rfl) evL_nil))).trans (led_ok (ns := (List.range' 0 cs.length).map (cnt R)) rfl fun t ht => ?_))
      have := ok.to a c hc t ht
      simp [this]) (by omega)
  have em : R.filterMap (fun a => (cs[a]?).map fun c => (c.via (cnt R)).pv) = (led1 cs R).map Cmd.pv := by
    unfold led1
    rw [List.map_filterMap]
    refine congrArg (fun g => List.filterMap g R) (funext fun a => ?_)
    cases cs[a]? <;> rfl
  rw [em] at e3
  have s3 := exS_asg (t := Tg.var 3) (σ1 := env23 cs 1 2 none none none none) (evP_tmp e3) rfl
  obtain ⟨n2', p', y4, y5, S', q1, q2⟩ := loop23 (cs := cs) (k := k + 1) cs.length 0 (led1 cs R) [.lst (R.map nI), .lst (((List.range' 0 cs.length).map (cnt R)).map nI), .lst ((led1 cs R).map Cmd.pv)] 1 2 none none none none h1 (by omega) rfl
  rw [shorten_more cs.length (led1 cs R).length (led1 cs R) h1 (by omega) (Nat.le_refl _)] at q2
  change S'[p']? = some (.lst ((short cs R).map Cmd.pv)) at q2
  refine own_val (d := e23) (S' := S') rfl rfl rfl (bel_code1 cs) (code_bel _) ((exL_nx s1).trans ((exL_nx s2).trans ((exL_nx s3).trans ((exL_nx ((exS_frr (evI_rng1 (j := Int.ofNat cs.length) (len_code rfl) (rngW_nat (by omega)))).trans q1)).trans (exL_rt (exS_ret (ev_tup (evL_val (z := .tup [.int 2]) (ev_idx (x := .val (code cs)) (ev_var rfl) ev_cst rfl) (evL_val (z := cds (short cs R)) (ev_blt1 (x := .val (.ref p')) (ev_var rfl) ?_) evL_nil)) (by show 2 ≤ SZ; decide))))))))
  simp only [bltE, one, bTuple, itL, q2]
  rfl
end
end K06
end partK06w

section partK06x
set_option linter.all false
set_option maxRecDepth 100000
/-! K06x: _law_same. -/
namespace K06
open Mp
def okV : Nat → PV → Bool
  | 0, _ => false
  | n + 1, v => match v with
    | .int _ => true
    | .str _ => true
    | .tup xs => xs.all (okV n) && decide (xs.length ≤ SZ)
    | _ => false
theorem okV_bel : ∀ (n : Nat) (v : PV), okV n v = true → v.bel 0 = true
  | 0, _, h => by cases h
  | n + 1, v, h => by
    cases v with
    | int _ => rfl
    | str _ => rfl
    | tup xs =>
      have h' := (Bool.and_eq_true_iff.mp h).1
      have : ∀ xs : List PV, xs.all (okV n) = true → PV.belL 0 xs = true := by
        intro xs
        induction xs with
        | nil => intro _; rfl
        | cons x r ih =>
          intro hx
          rw [List.all_cons, Bool.and_eq_true] at hx
          exact Bool.and_eq_true_iff.mpr ⟨okV_bel n x hx.1, ih hx.2⟩
      exact this xs h'
    | _ => cases h
theorem okV_mono : ∀ (n : Nat) (v : PV), okV n v = true → okV (n + 1) v = true
  | 0, _, h => by cases h
  | n + 1, v, h => by
    cases v with
    | int _ => rfl
    | str _ => rfl
    | tup xs =>
      have h' := Bool.and_eq_true_iff.mp h
      refine Bool.and_eq_true_iff.mpr ⟨List.all_eq_true.mpr fun x hx => okV_mono n x (List.all_eq_true.mp h'.1 x hx), h'.2⟩
    | _ => cases h
section
variable {k : Nat} {G : Grd} {S : Sto}
def body24 : List CS := [CS.ife (CE.call 24 [(CE.var 0).idx (CE.var 2), (CE.var 1).idx (CE.var 2)]).not [CS.ret (CE.cst (PV.bl false))] []]
theorem loop24 {xs : List PV} {F : FT} (hF : ∀ x ∈ xs, F ⟨0, []⟩ 24 [x, x] [] = .ok (.val (.bl true)) []) : ∀ (m i : Nat) (y : Option PV), i + m = xs.length →
    ∃ y', forF ⟨0, []⟩ (.var 2) (fun σ S => exL gl kd F ⟨0, []⟩ body24 σ S) ((List.range' i m).map nI) [some (.tup xs), some (.tup xs), y] [] = .ok (.nx [some (.tup xs), some (.tup xs), y']) []
  | 0, i, y, _ => ⟨y, rfl⟩
  | m + 1, i, y, h => by
    obtain ⟨y', e⟩ := loop24 hF m (i + 1) (some (nI i)) (by omega)
    refine ⟨y', ?_⟩
    rw [List.range'_succ, List.map_cons]
    have hx : xs[i]? = some (xs[i]'(by omega)) := List.getElem?_eq_getElem _
    have hm := List.mem_of_getElem? hx
    generalize xs[i]'(by omega) = x at hx hm
    refine (forF_nx (σ1 := [some (.tup xs), some (.tup xs), some (nI i)]) (σ2 := [some (.tup xs), some (.tup xs), some (nI i)]) (S1 := []) rfl ?_).trans e
    refine (exL_nx (σ1 := [some (.tup xs), some (.tup xs), some (nI i)]) (S1 := []) ((exS_ife (k := false) (tst_of (ev_not (x := .val (.bl true)) ((ev_call (evL_val (z := x) (ev_idx (x := .val (.tup xs)) (y := .val (nI i)) (ev_var rfl) (ev_var rfl) (idx_tup hx)) (evL_val (z := x) (ev_idx (x := .val (.tup xs)) (y := .val (nI i)) (ev_var rfl) (ev_var rfl) (idx_tup hx)) evL_nil))).trans (hF x hm)) rfl) rfl)).trans ?_)).trans (by rw [exL])
    rw [if_neg (by decide), exL]
theorem same_ok : ∀ (n : Nat) (v : PV), okV n v = true → ∀ (G : Grd) (S : Sto), callF PP (k + n) G 24 [v, v] S = .ok (.val (.bl true)) S
  | 0, _, h, _, _ => by cases h
  | n + 1, v, h, G, S => by
    have hb : PV.belL 0 [v, v] = true := by
      show (v.bel 0 && (v.bel 0 && true)) = true
      rw [okV_bel _ _ h]; rfl
    cases v with
    | int i =>
      refine own_val (k := k + n) (d := e24) (S' := []) rfl rfl rfl hb rfl ?_
      have he : eqE (.val (.int i)) (.val (.int i)) [] = some true := by
        show some (PV.eqv (.int i) (.int i)) = _
        show some (i == i) = _
        simp
      refine (exL_nx (σ1 := [some (.int i), some (.int i), none]) (S1 := []) (by kernel_rfl)).trans ((exL_nx (σ1 := [some (.int i), some (.int i), none]) (S1 := []) (by kernel_rfl)).trans (exL_rt (exS_ret ?_)))
      exact (ev_andT (x := .val (.bl true)) (ev_isi (x := .val (.int i)) (ev_var rfl) rfl) rfl).trans ((ev_andT (x := .val (.bl true)) (ev_not (x := .val (.bl false)) (ev_isi (x := .val (.int i)) (ev_var rfl) rfl) rfl) rfl).trans (ev_cmp (x := .val (.int i)) (y := .val (.int i)) (ev_var rfl) (ev_var rfl) he))
    | str s =>
      refine own_val (k := k + n) (d := e24) (S' := []) rfl rfl rfl hb rfl ?_
      have he : eqE (.val (.str s)) (.val (.str s)) [] = some true := by
        show some (s == s) = _
        simp
      refine (exL_nx (σ1 := [some (.str s), some (.str s), none]) (S1 := []) (by kernel_rfl)).trans (exL_rt ((exS_ife (k := true) (tst_of (ev_isi (x := .val (.str s)) (ev_var rfl) rfl) rfl)).trans ?_))
      rw [if_pos rfl]
      exact exL_rt (exS_ret ((ev_andT (x := .val (.bl true)) (ev_isi (x := .val (.str s)) (ev_var rfl) rfl) rfl).trans (ev_cmp (x := .val (.str s)) (y := .val (.str s)) (ev_var rfl) (ev_var rfl) he)))
    | tup xs =>
      have h' := Bool.and_eq_true_iff.mp h
      have hl := of_decide_eq_true h'.2
      obtain ⟨y', e⟩ := loop24 (xs := xs) (F := callF PP (k + n)) (fun x hx => same_ok n x (List.all_eq_true.mp h'.1 x hx) _ _) xs.length 0 none (by omega)
      refine own_val (k := k + n) (d := e24) (S' := []) rfl rfl rfl hb rfl ?_
      refine exL_rt ((exS_ife (k := true) (tst_of (ev_isi (x := .val (.tup xs)) (ev_var rfl) rfl) rfl)).trans ?_)
      rw [if_pos rfl]
      have hne : evE gl kd (callF PP (k + n)) ⟨0, []⟩ ((((CE.var 0).isi Ty.tuple).not.or (CE.cmp Cop.ne (CE.blt Blt.len [CE.var 0]) (CE.blt Blt.len [CE.var 1])))) [some (.tup xs), some (.tup xs), none] [] = .ok (.val (.bl false)) [] := by
        refine (ev_orF (x := .val (.bl false)) (ev_not (x := .val (.bl true)) (ev_isi (x := .val (.tup xs)) (ev_var rfl) rfl) rfl) rfl).trans (ev_cmp (x := .val (nI xs.length)) (y := .val (nI xs.length)) (ev_blt1 (x := .val (.tup xs)) (ev_var rfl) rfl) (ev_blt1 (x := .val (.tup xs)) (ev_var rfl) rfl) ?_)
        show (eqE (.val (nI xs.length)) (.val (nI xs.length)) []).map not = _
        rw [eq_nats]
        simp
      refine (exL_nx (σ1 := [some (.tup xs), some (.tup xs), none]) (S1 := []) ((exS_ife (k := false) (tst_of hne rfl)).trans (by rw [if_neg (by decide), exL]))).trans ?_
      exact (exL_nx ((exS_frr (evI_rng1 (j := Int.ofNat xs.length) (ev_blt1 (x := .val (.tup xs)) (ev_var rfl) rfl) (rngW_nat hl))).trans e)).trans (exL_rt (exS_ret ev_cst))
    | _ => cases h
end
end K06
end partK06x

section partK06y
set_option linter.all false
set_option maxRecDepth 100000
/-! K06y: check_code. -/
namespace K06
open Mp
section
variable {k : Nat} {G : Grd} {S : Sto} {cs : List Cmd}
def cnts : PV := .tup [.int 2, .int 3]
theorem leI_nat (i j : Nat) (h : i ≤ j) : cmpE .le (.val (nI i)) (.val (nI j)) S = some true := by
  show cmpI .le (i : Int) (j : Int) = _
  show some (decide ((i : Int) ≤ (j : Int))) = _
  rw [decide_eq_true (by omega)]
theorem ev_cmp2 {gl : List PV} {kd : List KD} {F : FT} {σ : Env} {S1 S2 S3 : Sto} {x y z : EV} {a b c : CE} {o p : Cop} {l : Bool} (h1 : evE gl kd F G a σ S = .ok x S1) (h2 : evE gl kd F G b σ S1 = .ok y S2) (h : cmpE o x y S2 = some true)
    (h3 : evE gl kd F G c σ S2 = .ok z S3) (h4 : cmpE p y z S3 = some l) : evE gl kd F G (.cmp2 o p a b c) σ S = .ok (.val (.bl l)) S3 := by
  rw [evE, h1, R.bind_ok, h2, R.bind_ok, h]
  dsimp only
  rw [if_pos rfl, h3, R.bind_ok, h4]
theorem within_nat {t j : Nat} (h : t ≤ j) : callF PP (k + 2) G 9 [nI t, .int 0, nI j] S = .ok (.val (.bl true)) S := by
  refine own_val (d := e9) (S' := []) rfl rfl rfl rfl rfl (exL_rt (exS_ret ?_))
  refine (ev_andT (x := .val (.bl true)) (S1 := []) ?_ rfl).trans (ev_cmp2 (x := .val (nI 0)) (y := .val (nI t)) (z := .val (nI j)) (ev_var rfl) (ev_var rfl) (leI_nat 0 t (Nat.zero_le t)) (ev_var rfl) (leI_nat t j h))
  kernel_rfl
theorem bel_cw (c : Cmd) : PV.belL 0 [cnts, code cs, c.pv] = true := by
  show ((code cs).bel 0 && (c.pv.bel 0 && true)) = true
  rw [code_bel, Cmd.bel]; rfl
theorem word_ok {c : Cmd} (hp : 0 < cs.length) (h : ∀ t, c.to = some t → t < cs.length) : callF PP (k + 4) G 14 [cnts, code cs, c.pv] S = .ok (.val .non) S := by
  have br : ∀ (t : Nat) (ss : PV) (w : Option PV), c.to = some t →
      exL gl kd (callF PP (k + 3)) ⟨0, []⟩ b14 [some cnts, some (code cs), some c.pv, none, none] [] = exL gl kd (callF PP (k + 3)) ⟨0, []⟩ (b14.drop 6) [some cnts, some (code cs), some c.pv, some ss, w] [] →
      evE gl kd (callF PP (k + 3)) ⟨0, []⟩ (CE.cmp Cop.in (CE.cst (PV.str [116, 111])) (CE.var 3)) [some cnts, some (code cs), some c.pv, some ss, w] [] = .ok (.val (.bl true)) [] →
      evE gl kd (callF PP (k + 3)) ⟨0, []⟩ ((CE.var 2).idx (CE.cst (PV.int (1))).neg) [some cnts, some (code cs), some c.pv, some ss, w] [] = .ok (.val (nI t)) [] →
      callF PP (k + 4) G 14 [cnts, code cs, c.pv] S = .ok (.val .non) S := by
    intro t ss w ht h1 h2 h3
    refine own_val (d := e14) (S' := []) rfl rfl rfl (bel_cw c) rfl (h1.trans ?_)
    have hl : evE gl kd (callF PP (k + 3)) ⟨0, []⟩ (CE.bin Bop.sub (CE.blt Blt.len [(CE.var 1).idx (CE.cst (PV.int (1)))]) (CE.cst (PV.int (1)))) [some cnts, some (code cs), some c.pv, some ss, w] [] = .ok (.val (nI (cs.length - 1))) [] :=
      ev_bin (x := .val (nI cs.length)) (y := .val (.int 1)) (len_code rfl) ev_cst (by rw [← sub_one hp]; rfl)
    have hc : evE gl kd (callF PP (k + 3)) ⟨0, []⟩ ((CE.cmp Cop.in (CE.cst (PV.str [116, 111])) (CE.var 3)).and
      (CE.call 9
          [(CE.var 2).idx (CE.cst (PV.int (1))).neg, CE.cst (PV.int (0)),
            CE.bin Bop.sub (CE.blt Blt.len [(CE.var 1).idx (CE.cst (PV.int (1)))])
              (CE.cst (PV.int (1)))]).not) [some cnts, some (code cs), some c.pv, some ss, w] [] = .ok (.val (.bl false)) [] :=
      (ev_andT h2 rfl).trans (ev_not (x := .val (.bl true)) ((ev_call (evL_val h3 (evL_val ev_cst (evL_val hl evL_nil)))).trans (within_nat (by have := h t ht; omega))) rfl)
    exact (exL_nx (σ1 := [some cnts, some (code cs), some c.pv, some ss, w]) (S1 := []) ((exS_ife (k := false) (tst_of hc rfl)).trans (by rw [if_neg (by decide), exL]))).trans (exL_rt (exS_ret ev_cst))
  cases c with
  | iff t => exact br t (.tup [.str [112, 108, 97, 99, 101], .str [110, 111, 116, 105, 99, 101], sTo]) none rfl (by kernel_rfl) (by kernel_rfl) (by kernel_rfl)
  | either t => exact br t (.tup [sTo]) none rfl (by kernel_rfl) (by kernel_rfl) (by kernel_rfl)
  | ask t => exact br t (.tup [.str [110, 111, 116, 101], .str [110, 117, 109, 98, 101, 114], sTo]) (some .non) rfl (by kernel_rfl) (by kernel_rfl) (by kernel_rfl)
  | go t => exact br t (.tup [sTo]) none rfl (by kernel_rfl) (by kernel_rfl) (by kernel_rfl)
  | _ =>
    refine own_val (d := e14) (S' := []) rfl rfl rfl (bel_cw _) rfl ?_
    kernel_rfl
/-! #### the shape -/
def Cmd.word : Cmd → PV
  | .put => sPut
  | .put2 => sPut
  | .wait => sWait
  | .wait1 => sWait
  | .stop => sStop
  | .mark => sMark
  | .set => sSet
  | .look => sLook
  | .iff _ => sIf
  | .either _ => sEither
  | .ask _ => sAsk
  | .go _ => sGo
theorem shape_ok (ok : OkC cs) (hlen : cs.length ≤ 1000) : callF PP (k + 4) G 12 [code cs] S = .ok (.val (.bl true)) S := by
  have hz : SZ = 16777216 := rfl
  obtain ⟨c0, cs', rfl⟩ : ∃ c r, cs = c :: r := by
    cases cs with
    | nil => exact absurd ok.pos (by decide)
    | cons c r => exact ⟨c, r, rfl⟩
  have hpl : ∀ σ : Env, σ[0]? = some (some (code (c0 :: cs'))) → evE gl kd (callF PP (k + 3)) ⟨0, []⟩ (CE.call 10 [CE.var 0, CE.cst (PV.int (2))]) σ [] = .ok (.val (.bl true)) [] := by
    intro σ h0
    refine (ev_call (evL_val (ev_var h0) (evL_val ev_cst evL_nil))).trans ?_
    refine own_val (d := e10) (S' := []) rfl rfl rfl (bel_code2 _ _) rfl ?_
    kernel_rfl
  have c1 : tst gl kd (callF PP (k + 3)) ⟨0, []⟩ ((CE.call 10 [CE.var 0, CE.cst (PV.int (2))]).not.or
      ((((CE.var 0).idx (CE.cst (PV.int (0)))).isi Ty.tuple).not.or
        ((((CE.var 0).idx (CE.cst (PV.int (1)))).isi Ty.tuple).not.or
          ((CE.var 0).idx (CE.cst (PV.int (1)))).not))) [some (code (c0 :: cs')), none, none, none, none, none] [] = .ok false [] := by
    refine tst_of (v := .val (.bl false)) ((ev_orF (x := .val (.bl false)) (S1 := []) (ev_not (x := .val (.bl true)) (hpl _ rfl) rfl) rfl).trans ?_) rfl
    kernel_rfl
  have h1 : evE gl kd (callF PP (k + 3)) ⟨0, []⟩ (((CE.var 3).idx (CE.cst (PV.int (0)))).lc (Tg.var 3)
      (CI.exp ((CE.var 0).idx (CE.cst (PV.int (1))))) [((CE.var 3).isi Ty.tuple).and (CE.var 3)] [3]) [some (code (c0 :: cs')), none, none, none, none, none] [] = .ok (.tmp (.lst ((c0 :: cs').map Cmd.word))) [] := by
    have e := ev_lcG (gl := gl) (kd := kd) (F := callF PP (k + 3)) (G := ⟨0, []⟩) (σ := [some (code (c0 :: cs')), none, none, none, none, none]) (S := []) (S1 := []) (e := (CE.var 3).idx (CE.cst (PV.int (0)))) (t := Tg.var 3) (it := CI.exp ((CE.var 0).idx (CE.cst (PV.int (1))))) (ifs := [((CE.var 3).isi Ty.tuple).and (CE.var 3)]) (own := [3])
      (xs := c0 :: cs') (h := Cmd.pv) (g := fun c => some c.word) (fr := []) (evI_exp (ev_code1 rfl) rfl) (fun c _ => by cases c <;> kernel_rfl) (by omega)
    rw [List.filterMap_eq_map'] at e
    exact e
  have h2 : evE gl kd (callF PP (k + 3)) ⟨0, []⟩ ((CE.var 4).lc (Tg.var 4) (CI.exp (CE.var 1)) [((CE.var 4).isi Ty.str).and (CE.kin false 0 (CE.var 4))] [4]) [some (code (c0 :: cs')), some (.ref 0), none, none, none, none] [.lst ((c0 :: cs').map Cmd.word)] = .ok (.tmp (.lst ((c0 :: cs').map Cmd.word))) [.lst ((c0 :: cs').map Cmd.word)] := by
    have e := ev_lcG (gl := gl) (kd := kd) (F := callF PP (k + 3)) (G := ⟨0, []⟩) (σ := [some (code (c0 :: cs')), some (.ref 0), none, none, none, none]) (S := [.lst ((c0 :: cs').map Cmd.word)]) (S1 := [.lst ((c0 :: cs').map Cmd.word)]) (e := CE.var 4) (t := Tg.var 4) (it := CI.exp (CE.var 1)) (ifs := [((CE.var 4).isi Ty.str).and (CE.kin false 0 (CE.var 4))]) (own := [4])
      (xs := c0 :: cs') (h := Cmd.word) (g := fun c => some c.word) (fr := [0]) (evI_exp (ev_var rfl) rfl) (fun c _ => by cases c <;> kernel_rfl) (by omega)
    rw [List.filterMap_eq_map'] at e
    exact e
  have hw : callF PP (k + 4) G 12 [code (c0 :: cs')] S = .ok (.val (.bl true)) S := by
    refine own_val (d := e12) (S' := [.lst ((c0 :: cs').map Cmd.word), .lst ((c0 :: cs').map Cmd.word)]) rfl rfl rfl (bel_code1 _) rfl ?_
    refine (exL_nx (σ1 := [some (code (c0 :: cs')), none, none, none, none, none]) (S1 := []) ((exS_ife c1).trans (by rw [if_neg (by decide), exL]))).trans ?_
    refine (exL_nx (σ1 := [some (code (c0 :: cs')), none, none, none, none, none]) (S1 := []) (by kernel_rfl)).trans ?_
    refine (exL_nx (σ1 := [some (code (c0 :: cs')), some (.ref 0), none, none, none, none]) (S1 := [.lst ((c0 :: cs').map Cmd.word)]) (exS_asg (evP_tmp h1) rfl)).trans ?_
    refine (exL_nx (σ1 := [some (code (c0 :: cs')), some (.ref 0), some (.ref 1), none, none, none]) (S1 := [.lst ((c0 :: cs').map Cmd.word), .lst ((c0 :: cs').map Cmd.word)]) (exS_asg (evP_tmp h2) rfl)).trans ?_
    refine exL_rt (exS_ret ?_)
    have e1 : bltE .len [.val (.ref 1)] [.lst ((c0 :: cs').map Cmd.word), .lst ((c0 :: cs').map Cmd.word)] = some (.val (nI (c0 :: cs').length)) := by
      rw [len_lst (xs := (c0 :: cs').map Cmd.word) rfl, List.length_map]
    refine ev_cmp (x := .val (nI (c0 :: cs').length)) (y := .val (nI (c0 :: cs').length)) (ev_blt1 (ev_var rfl) e1) (len_code rfl) ?_
    show eqE (.val (nI (c0 :: cs').length)) (.val (nI (c0 :: cs').length)) [.lst ((c0 :: cs').map Cmd.word), .lst ((c0 :: cs').map Cmd.word)] = _
    rw [eq_nats, decide_eq_true rfl]
  exact hw
/-! #### check_code -/
theorem loop15 {F : FT} (hF : ∀ c ∈ cs, F ⟨0, []⟩ 14 [cnts, code cs, c.pv] [] = .ok (.val .non) []) : ∀ (ds : List Cmd) (i : Nat) (x y z : Option PV), (∀ c ∈ ds, c ∈ cs) →
    ∃ x' y' z', forF ⟨0, []⟩ (.tup [.var 2, .var 3]) (fun σ S => exL gl kd F ⟨0, []⟩ [CS.asg (Tg.var 4) (CE.call 14 [CE.var 0, CE.var 1, CE.var 3]), CS.ife (CE.cmp Cop.isn (CE.var 4) (CE.cst PV.non)) [CS.bad] []] σ S) (enumL i (ds.map Cmd.pv)) [some cnts, some (code cs), x, y, z] [] = .ok (.nx [some cnts, some (code cs), x', y', z']) []
  | [], i, x, y, z, _ => ⟨x, y, z, rfl⟩
  | c :: ds, i, x, y, z, h => by
    obtain ⟨x', y', z', e⟩ := loop15 hF ds (i + 1) (some (nI i)) (some c.pv) (some .non) fun c hc => h c (List.mem_cons_of_mem _ hc)
    refine ⟨x', y', z', ?_⟩
    rw [List.map_cons, enumL]
    refine (forF_nx (σ1 := [some cnts, some (code cs), some (nI i), some c.pv, z]) (σ2 := [some cnts, some (code cs), some (nI i), some c.pv, some .non]) (S1 := []) rfl ?_).trans e
    refine (exL_nx (σ1 := [some cnts, some (code cs), some (nI i), some c.pv, some .non]) (S1 := []) (exS_asg (evP_val ((ev_call (evL_val (ev_var rfl) (evL_val (ev_var rfl) (evL_val (ev_var rfl) evL_nil)))).trans (hF c (h c List.mem_cons_self)))) rfl)).trans ?_
    exact (exL_nx (σ1 := [some cnts, some (code cs), some (nI i), some c.pv, some .non]) (S1 := []) ((exS_ife (k := false) (tst_of (ev_cmp (k := false) (ev_var rfl) ev_cst rfl) rfl)).trans (by rw [if_neg (by decide), exL]))).trans (by rw [exL])
theorem check_ok (ok : OkC cs) (hlen : cs.length ≤ 1000) : callF PP (k + 5) G 15 [cnts, code cs] S = .ok (.val (nI cs.length)) S := by
  obtain ⟨x', y', z', e⟩ := loop15 (cs := cs) (F := callF PP (k + 4)) (fun c hc => by
    obtain ⟨a, ha⟩ := List.getElem?_of_mem hc
    exact word_ok ok.pos (ok.to a c ha)) cs 0 none none none fun c h => h
  have hb : PV.belL 0 [cnts, code cs] = true := by
    show ((code cs).bel 0 && true) = true
    rw [code_bel]; rfl
  refine own_val (d := e15) (S' := []) rfl rfl rfl hb rfl ?_
  have c1 : evE gl kd (callF PP (k + 4)) ⟨0, []⟩ (CE.call 12 [CE.var 1]).not [some cnts, some (code cs), none, none, none] [] = .ok (.val (.bl false)) [] :=
    ev_not (x := .val (.bl true)) ((ev_call (evL_val (ev_var rfl) evL_nil)).trans (shape_ok ok hlen)) rfl
  refine (exL_nx (σ1 := [some cnts, some (code cs), none, none, none]) (S1 := []) ((exS_ife (k := false) (tst_of c1 rfl)).trans (by rw [if_neg (by decide), exL]))).trans ?_
  refine (exL_nx (σ1 := [some cnts, some (code cs), x', y', z']) (S1 := []) ((exS_frr (w := ⟨enumL 0 (cs.map Cmd.pv), []⟩) (evI_enum (w := ⟨cs.map Cmd.pv, []⟩) (ev_code1 rfl) rfl)).trans e)).trans ?_
  have hp := ok.pos
  have hg : cs[cs.length - 1]? = some (cs[cs.length - 1]'(by omega)) := List.getElem?_eq_getElem _
  generalize cs[cs.length - 1]'(by omega) = c at hg
  have hf : c.fin = true := ok.last _ c hg (by omega)
  have hl : idxE (.val (cds cs)) (.val (.int (-1))) [] = some c.pv := by
    show pyIdx (cs.map Cmd.pv) (-1) = _
    unfold pyIdx pyPos
    rw [List.length_map, if_neg (by decide), if_pos (by omega)]
    show (cs.map Cmd.pv)[((-1 : Int) + (cs.length : Nat)).toNat]? = _
    rw [show ((-1 : Int) + (cs.length : Nat)).toNat = cs.length - 1 by omega, cds_get hg]
  have c2 : evE gl kd (callF PP (k + 4)) ⟨0, []⟩ (CE.cmp Cop.nin
      ((((CE.var 1).idx (CE.cst (PV.int (1)))).idx (CE.cst (PV.int (1))).neg).idx
        (CE.cst (PV.int (0))))
      (CE.tup [CE.cst (PV.str [103, 111]), CE.cst (PV.str [115, 116, 111, 112])])) [some cnts, some (code cs), x', y', z'] [] = .ok (.val (.bl false)) [] := by
    refine ev_cmp (x := .val c.word) (y := .val (.tup [sGo, sStop])) (ev_idx (x := .val c.pv) (ev_idx (x := .val (cds cs)) (y := .val (.int (-1))) (ev_code1 rfl) (by kernel_rfl) hl) ev_cst ?_) (ev_tup (evL_val ev_cst (evL_val ev_cst evL_nil)) (by show 2 ≤ SZ; decide)) ?_
    · cases c <;> rfl
    · cases c <;> first | exact absurd (show false = true from hf) (by decide) | kernel_rfl
  refine (exL_nx (σ1 := [some cnts, some (code cs), x', y', z']) (S1 := []) ((exS_ife (k := false) (tst_of c2 rfl)).trans (by rw [if_neg (by decide), exL]))).trans ?_
  exact exL_rt (exS_ret (len_code rfl))
end
end K06
end partK06y

section partK06k
set_option linter.all false
set_option maxRecDepth 100000
/-! K06k: _law_knot. -/
namespace K06
open Mp
section
variable {gl : List PV} {kd : List KD} {F : FT} {G : Grd} {σ : Env} {S S1 S2 S3 S4 : Sto}
theorem exS_asgS {o i e : CE} {v x y : PV} (h1 : evP gl kd F G e σ S = .ok v S1) (h2 : evP gl kd F G o σ S1 = .ok x S2) (h3 : evP gl kd F G i σ S2 = .ok y S3) (h4 : putE G x y v S3 = some S4) : exS gl kd F G (.asgS o i e) σ S = .ok (.nx σ) S4 := by
  rw [exS, h1, R.bind_ok, h2, R.bind_ok, h3, R.bind_ok, h4]
theorem b_mul {S : Sto} (i j : Int) (h : inB j = true) : binE .mul (.val (.int i)) (.val (.int j)) S = some (.val (.int (i * j))) := by
  show (binI .mul i j).map _ = _
  unfold binI
  dsimp only
  rw [h, Bool.or_true, if_pos rfl]
  rfl
theorem b_mod {S : Sto} (i j : Int) (h : 0 < j) : binE .mod (.val (.int i)) (.val (.int j)) S = some (.val (.int (i % j))) := by
  show (binI .mod i j).map _ = _
  unfold binI
  dsimp only
  rw [if_pos h]
  rfl
theorem b_div {S : Sto} (i j : Int) (h : 0 < j) (h2 : j < 1073741824) : binE .fdiv (.val (.int i)) (.val (.int j)) S = some (.val (.int (i / j))) := by
  show (binI .fdiv i j).map _ = _
  unfold binI
  dsimp only
  rw [if_pos ⟨h, h2⟩]
  rfl
theorem eq_int {S : Sto} (i j : Int) : eqE (.val (.int i)) (.val (.int j)) S = some (decide (i = j)) := by
  show (if (0 ≤ 60 ∧ 0 ≤ 60) then some (if false = false then PV.eqv (.int i) (.int j) else false) else none) = _
  rw [if_pos ⟨by decide, by decide⟩, if_pos rfl]
  show some (i == j) = _
  by_cases h : i = j
  · subst h; simp
  · rw [decide_eq_false h, beq_eq_false_iff_ne.mpr h]
end
def kv (p : Nat × Int) : PK × PV := (.kI p.1, .int p.2)
def Yarn (hs : List Int) (t c : Int) (ps : List (Nat × Int)) (R : Sto) : Sto := .lst (hs.map .int) :: .dct (ps.map kv) :: .lst [.ref 0, .int t, .int c, .ref 1] :: R
structure OkP (ps : List (Nat × Int)) : Prop where
  nd : (ps.map (·.1)).Nodup
  lt : ∀ x ∈ ps.map (·.1), x < 20
def YS (S R : Sto) : Prop := ∃ hs t c ps, hs.length ≤ 100 ∧ OkP ps ∧ S = Yarn hs t c ps R
theorem dGet_no : ∀ (ps : List (Nat × Int)) (j : Nat), j ∉ ps.map (·.1) → dGet (ps.map kv) (.kI j) = none
  | [], _, _ => rfl
  | p :: ps, j, h => by
    have h1 : ¬ p.1 = j := fun e => h (by rw [List.map_cons, e]; exact List.mem_cons_self)
    have h2 : j ∉ ps.map (·.1) := fun e => h (by rw [List.map_cons]; exact List.mem_cons_of_mem _ e)
    have := dGet_no ps j h2
    unfold dGet at this ⊢
    rw [List.map_cons, List.find?_cons]
    have e : decide ((kv p).1 = .kI (j : Nat)) = false := by
      refine decide_eq_false fun z => h1 ?_
      have : (p.1 : Int) = j := PK.kI.inj z
      omega
    rw [e]
    exact this
theorem dGet_yes : ∀ (ps : List (Nat × Int)) (j : Nat), j ∈ ps.map (·.1) → ∃ w, dGet (ps.map kv) (.kI j) = some (.int w)
  | [], _, h => by cases h
  | p :: ps, j, h => by
    by_cases h1 : p.1 = j
    · refine ⟨p.2, ?_⟩
      unfold dGet
      rw [List.map_cons, List.find?_cons]
      have e : decide ((kv p).1 = .kI (j : Nat)) = true := by
        subst h1
        exact decide_eq_true rfl
      rw [e]
      rfl
    · have h2 : j ∈ ps.map (·.1) := by
        rw [List.map_cons] at h
        rcases List.mem_cons.mp h with e | e
        · exact absurd e.symm h1
        · exact e
      obtain ⟨w, hw⟩ := dGet_yes ps j h2
      refine ⟨w, ?_⟩
      unfold dGet at hw ⊢
      rw [List.map_cons, List.find?_cons]
      have e : decide ((kv p).1 = .kI (j : Nat)) = false := by
        refine decide_eq_false fun z => h1 ?_
        have : (p.1 : Int) = j := PK.kI.inj z
        omega
      rw [e]
      exact hw
theorem dPut_no (ps : List (Nat × Int)) (j : Nat) (w : Int) (h : j ∉ ps.map (·.1)) : dPut (ps.map kv) (.kI j) (.int w) = (ps ++ [(j, w)]).map kv := by
  unfold dPut
  rw [if_neg, List.map_append]
  · rfl
  · intro z
    obtain ⟨q, hq, e⟩ := List.any_eq_true.mp z
    obtain ⟨p, hp, rfl⟩ := List.mem_map.mp hq
    have : (p.1 : Int) = j := PK.kI.inj (of_decide_eq_true e)
    exact h (List.mem_map.mpr ⟨p, hp, by omega⟩)
theorem OkP.len {ps : List (Nat × Int)} (o : OkP ps) : ps.length ≤ 20 := by
  have := nodup_len o.nd o.lt
  rw [List.length_map] at this
  exact this
theorem OkP.add {ps : List (Nat × Int)} (o : OkP ps) {j : Nat} (w : Int) (hj : j < 20) (h : j ∉ ps.map (·.1)) : OkP (ps ++ [(j, w)]) := by
  refine ⟨?_, fun x hx => ?_⟩
  · rw [List.map_append]
    refine List.nodup_append.mpr ⟨o.nd, by simp, fun a ha b hb => ?_⟩
    have : b = j := by simpa using hb
    subst this
    intro e
    subst e
    exact h ha
  · rw [List.map_append] at hx
    rcases List.mem_append.mp hx with e | e
    · exact o.lt x e
    · have : x = j := by simpa using e
      omega
/-! #### the walk -/
section
variable {k pl many : Nat} {R : Sto} {hs : List Int} {t c : Int} {ps : List (Nat × Int)}
def σk (pl many : Nat) (w x : Option PV) : Env := [some (.ref 2), some (nI pl), some (nI many), w, x]
theorem y_at {F : FT} {w x : Option PV} (j : Nat) (z : PV) (h : [PV.ref 0, .int t, .int c, .ref 1][j]? = some z) : evE gl kd F ⟨0, []⟩ ((CE.var 0).idx (CE.cst (PV.int j))) (σk pl many w x) (Yarn hs t c ps R) = .ok (.val z) (Yarn hs t c ps R) :=
  ev_idx (x := .val (.ref 2)) (y := .val (nI j)) (ev_var rfl) ev_cst (idx_lst (xs := [PV.ref 0, .int t, .int c, .ref 1]) rfl h)
/-- 2. the count -/
theorem k_count : exS gl kd (callF PP k) ⟨0, []⟩ (CS.asgS (CE.var 0) (CE.cst (PV.int (2))) (CE.bin Bop.add ((CE.var 0).idx (CE.cst (PV.int (2)))) (CE.cst (PV.int (1))))) (σk pl many none none) (Yarn hs t c ps R) = .ok (.nx (σk pl many none none)) (Yarn hs t (c + 1) ps R) :=
  exS_asgS (evP_val (ev_bin (y_at 2 _ rfl) ev_cst rfl)) (evP_val (ev_var rfl)) (evP_val ev_cst) rfl
/-- the new twist -/
theorem k_twist : exS gl kd (callF PP k) ⟨0, []⟩ (CS.asgS (CE.var 0) (CE.cst (PV.int (1)))
    (CE.bin Bop.mod
      (CE.blt Blt.int
        [CE.bin Bop.add
            (CE.bin Bop.add
              (CE.bin Bop.add
                (CE.bin Bop.mul ((CE.var 0).idx (CE.cst (PV.int (1)))) (CE.cst (PV.int (46021))))
                (CE.bin Bop.mul ((CE.var 0).idx (CE.cst (PV.int (2)))) (CE.cst (PV.int (2081)))))
              (CE.bin Bop.mul (CE.var 1) (CE.cst (PV.int (67)))))
            (CE.cst (PV.int (29)))])
      (CE.cst (PV.int (2147481589))))) (σk pl many none none) (Yarn hs t c ps R) = .ok (.nx (σk pl many none none)) (Yarn hs ((t * 46021 + c * 2081 + pl * 67 + 29) % 2147481589) c ps R) :=
  exS_asgS (evP_val (ev_bin (ev_blt1 (ev_bin (ev_bin (ev_bin (ev_bin (y_at 1 _ rfl) ev_cst (b_mul _ _ (by decide))) (ev_bin (y_at 2 _ rfl) ev_cst (b_mul _ _ (by decide))) rfl) (ev_bin (ev_var (z := nI pl) rfl) ev_cst (b_mul _ _ (by decide))) rfl) ev_cst rfl) rfl) ev_cst (b_mod _ _ (by decide)))) (evP_val (ev_var rfl)) (evP_val ev_cst) rfl
theorem k_in : evE gl kd (callF PP k) ⟨0, []⟩ (CE.cmp Cop.nin (CE.var 1) ((CE.var 0).idx (CE.cst (PV.int (3))))) (σk pl many none none) (Yarn hs t c ps R) = .ok (.val (.bl (!(dGet (ps.map kv) (.kI pl)).isSome))) (Yarn hs t c ps R) := by
  refine ev_cmp (x := .val (nI pl)) (y := .val (.ref 1)) (ev_var rfl) (y_at 3 _ rfl) ?_
  rfl
theorem k_wont (ho : OkP ps) (hp : pl < 20) : ∃ t' ps', OkP ps' ∧ (∃ w, dGet (ps'.map kv) (.kI pl) = some (.int w)) ∧ exS gl kd (callF PP k) ⟨0, []⟩ (CS.ife (CE.cmp Cop.nin (CE.var 1) ((CE.var 0).idx (CE.cst (PV.int (3)))))
    [CS.asgS ((CE.var 0).idx (CE.cst (PV.int (3)))) (CE.var 1)
        (CE.bin Bop.mod
          (CE.blt Blt.int
            [CE.bin Bop.fdiv ((CE.var 0).idx (CE.cst (PV.int (1)))) (CE.cst (PV.int (59)))])
          (CE.cst (PV.int (13)))),
      CS.asgS (CE.var 0) (CE.cst (PV.int (1)))
        (CE.bin Bop.mod
          (CE.blt Blt.int
            [CE.bin Bop.add
                (CE.bin Bop.mul ((CE.var 0).idx (CE.cst (PV.int (1)))) (CE.cst (PV.int (69621))))
                ((CE.var 0).idx (CE.cst (PV.int (2))))])
          (CE.cst (PV.int (2147481589))))]
    []) (σk pl many none none) (Yarn hs t c ps R) = .ok (.nx (σk pl many none none)) (Yarn hs t' c ps' R) := by
  by_cases hm : pl ∈ ps.map (·.1)
  · obtain ⟨w, hw⟩ := dGet_yes ps pl hm
    refine ⟨t, ps, ho, ⟨w, hw⟩, (exS_ife (k := false) (tst_of k_in ?_)).trans (by rw [if_neg (by decide), exL])⟩
    rw [hw]; rfl
  · have hn := dGet_no ps pl hm
    refine ⟨(t * 69621 + c) % 2147481589, ps ++ [(pl, t / 59 % 13)], ho.add _ hp hm, dGet_yes _ _ (by rw [List.map_append]; exact List.mem_append.mpr (.inr List.mem_cons_self)), (exS_ife (k := true) (tst_of k_in ?_)).trans ?_⟩
    · rw [hn]; rfl
    · rw [if_pos rfl]
      refine (exL_nx (σ1 := σk pl many none none) (S1 := Yarn hs t c (ps ++ [(pl, t / 59 % 13)]) R) (exS_asgS (x := .ref 1) (y := nI pl) (evP_val (ev_bin (ev_blt1 (ev_bin (y_at 1 _ rfl) ev_cst (b_div _ _ (by decide) (by decide))) rfl) ev_cst (b_mod _ _ (by decide)))) (evP_val (y_at 3 _ rfl)) (evP_val (ev_var rfl)) ?_)).trans ?_
      · have hl := ho.len
        have hz : SZ = 16777216 := rfl
        show (if (ps.map kv).length < SZ then put ⟨0, []⟩ 1 (.dct (dPut (ps.map kv) (.kI pl) (.int (t / 59 % 13)))) (Yarn hs t c ps R) else none) = _
        rw [if_pos (by rw [List.length_map]; omega), dPut_no ps pl _ hm]
        rfl
      · refine (exL_nx (σ1 := σk pl many none none) (S1 := Yarn hs ((t * 69621 + c) % 2147481589) c (ps ++ [(pl, t / 59 % 13)]) R) (exS_asgS (x := .ref 2) (y := .int 1) (evP_val (ev_bin (ev_blt1 (ev_bin (ev_bin (y_at 1 _ rfl) ev_cst (b_mul _ _ (by decide))) (y_at 2 _ rfl) rfl) rfl) ev_cst (b_mod _ _ (by decide)))) (evP_val (ev_var rfl)) (evP_val ev_cst) rfl)).trans (by rw [exL])
theorem natI {i : Int} (h : 0 ≤ i) : PV.int i = nI i.toNat := by
  show PV.int i = PV.int (i.toNat : Nat)
  congr 1
  omega
theorem mod_lt {i : Int} {n : Nat} (h : 0 < n) : (i % n).toNat < n := by
  have h1 := Int.emod_nonneg i (show (n : Int) ≠ 0 by omega)
  have h2 := Int.emod_lt_of_pos i (show (0 : Int) < n by omega)
  omega
theorem mod_nI {i : Int} {n : Nat} (h : 0 < n) : PV.int (i % n) = nI (i % n).toNat := natI (Int.emod_nonneg i (show (n : Int) ≠ 0 by omega))
theorem k_two {S : Sto} {F : FT} {w x : Option PV} : evE gl kd F ⟨0, []⟩ (CE.cmp Cop.lt (CE.var 2) (CE.cst (PV.int (2)))) (σk pl many w x) S = .ok (.val (.bl (decide (many < 2)))) S := by
  refine ev_cmp (x := .val (nI many)) (y := .val (nI 2)) (ev_var rfl) ev_cst ?_
  show some (decide ((many : Int) < (2 : Nat))) = _
  congr 1
  exact decide_eq_decide.mpr (by omega)
/-- behind the hanks -/
theorem k_rest (ho : OkP ps) (hp : pl < 20) (hl : hs.length ≤ 100) (hm : 2 ≤ many) (hm2 : many < 1000000) : ∃ r S', exL gl kd (callF PP k) ⟨0, []⟩ (b17.drop 3) (σk pl many none none) (Yarn hs t c ps R) = .ok (.rt (.val (nI r))) S' ∧ YS S' R ∧ r < many := by
  obtain ⟨t', ps', ho', ⟨w, hw⟩, e⟩ := k_wont (k := k) (many := many) (R := R) (hs := hs) (t := (t * 46021 + c * 2081 + pl * 67 + 29) % 2147481589) (c := c) ho hp
  have e3 : exS gl kd (callF PP k) ⟨0, []⟩ (CS.asg (Tg.var 3) (((CE.var 0).idx (CE.cst (PV.int (3)))).idx (CE.var 1))) (σk pl many none none) (Yarn hs t' c ps' R) = .ok (.nx (σk pl many (some (.int w)) none)) (Yarn hs t' c ps' R) := by
    refine exS_asg (evP_val (ev_idx (x := .val (.ref 1)) (y := .val (nI pl)) (y_at 3 _ rfl) (ev_var rfl) ?_)) rfl
    exact hw
  have go : exL gl kd (callF PP k) ⟨0, []⟩ (b17.drop 3) (σk pl many none none) (Yarn hs t c ps R) = exL gl kd (callF PP k) ⟨0, []⟩ (b17.drop 6) (σk pl many (some (.int w)) none) (Yarn hs t' c ps' R) :=
    (exL_nx k_twist).trans ((exL_nx e).trans (exL_nx e3))
  have ys : YS (Yarn hs t' c ps' R) R := ⟨hs, t', c, ps', hl, ho', rfl⟩
  have q0 : evE gl kd (callF PP k) ⟨0, []⟩ (CE.cmp Cop.eq (CE.var 3) (CE.cst (PV.int (0)))) (σk pl many (some (.int w)) none) (Yarn hs t' c ps' R) = .ok (.val (.bl (decide (w = 0)))) (Yarn hs t' c ps' R) := ev_cmp (ev_var rfl) ev_cst (eq_int (S := Yarn hs t' c ps' R) w 0)
  have q12 : evE gl kd (callF PP k) ⟨0, []⟩ (CE.cmp Cop.eq (CE.var 3) (CE.cst (PV.int (12)))) (σk pl many (some (.int w)) none) (Yarn hs t' c ps' R) = .ok (.val (.bl (decide (w = 12)))) (Yarn hs t' c ps' R) := ev_cmp (ev_var rfl) ev_cst (eq_int (S := Yarn hs t' c ps' R) w 12)
  have qo : evE gl kd (callF PP k) ⟨0, []⟩ ((CE.cmp Cop.eq (CE.var 3) (CE.cst (PV.int (0)))).or (CE.cmp Cop.eq (CE.var 3) (CE.cst (PV.int (12))))) (σk pl many (some (.int w)) none) (Yarn hs t' c ps' R) = .ok (.val (.bl (decide (w = 0 ∨ w = 12)))) (Yarn hs t' c ps' R) := by
    by_cases h0 : w = 0
    · refine (ev_orT q0 (by rw [decide_eq_true h0]; rfl)).trans ?_
      rw [decide_eq_true h0, decide_eq_true (Or.inl h0)]
    · refine (ev_orF q0 (by rw [decide_eq_false h0]; rfl)).trans (q12.trans ?_)
      congr 3
      exact decide_eq_decide.mpr ⟨fun h => .inr h, fun h => h.resolve_left h0⟩
  have br : ∀ (r : Nat), r < many → exL gl kd (callF PP k) ⟨0, []⟩ (b17.drop 6) (σk pl many (some (.int w)) none) (Yarn hs t' c ps' R) = .ok (.rt (.val (nI r))) (Yarn hs t' c ps' R) → ∃ r S', exL gl kd (callF PP k) ⟨0, []⟩ (b17.drop 3) (σk pl many none none) (Yarn hs t c ps R) = .ok (.rt (.val (nI r))) S' ∧ YS S' R ∧ r < many :=
    fun r hr h => ⟨r, _, go.trans h, ys, hr⟩
  have m1 : evE gl kd (callF PP k) ⟨0, []⟩ (CE.bin Bop.sub (CE.var 2) (CE.cst (PV.int (1)))) (σk pl many (some (.int w)) none) (Yarn hs t' c ps' R) = .ok (.val (nI (many - 1))) (Yarn hs t' c ps' R) :=
    ev_bin (x := .val (nI many)) (y := .val (.int 1)) (ev_var rfl) ev_cst (by rw [← sub_one (by omega)]; rfl)
  by_cases h : w = 0 ∨ w = 12
  · have fin : ∀ b : Bool, decide (w = 12) = b → ∀ r : Nat, PV.int (((many - 1 : Nat) : Int) * (if b then 1 else 0)) = nI r → exL gl kd (callF PP k) ⟨0, []⟩ (b17.drop 6) (σk pl many (some (.int w)) none) (Yarn hs t' c ps' R) = .ok (.rt (.val (nI r))) (Yarn hs t' c ps' R) := by
      intro b hb r hr
      refine exL_rt ((exS_ife (k := true) (tst_of qo (by rw [decide_eq_true h]; rfl))).trans ?_)
      rw [if_pos rfl]
      refine exL_rt (exS_ret ?_)
      rw [hb] at q12
      refine ev_bin (x := .val (nI (many - 1))) (y := .val (.int (if b then 1 else 0))) m1 (ev_blt1 q12 rfl) ?_
      rw [← hr]
      exact b_mul _ _ (by cases b <;> decide)
    by_cases h12 : w = 12
    · refine br (many - 1) (by omega) (fin true (decide_eq_true h12) _ ?_)
      rw [if_pos rfl, Int.mul_one]
      rfl
    · refine br 0 (by omega) (fin false (decide_eq_false h12) _ ?_)
      rw [if_neg (by decide), Int.mul_zero]
      rfl
  · refine br (t' / 103 % many).toNat (mod_lt (by omega)) ?_
    refine (exL_nx (σ1 := σk pl many (some (.int w)) none) (S1 := Yarn hs t' c ps' R) ((exS_ife (k := false) (tst_of qo (by rw [decide_eq_false h]; rfl))).trans (by rw [if_neg (by decide), exL]))).trans ?_
    refine exL_rt (exS_ret (ev_bin (x := .val (.int (t' / 103))) (y := .val (nI many)) (ev_blt1 (ev_bin (y_at 1 _ rfl) ev_cst (b_div _ _ (by decide) (by decide))) rfl) (ev_var rfl) ?_))
    rw [← mod_nI (by omega)]
    exact b_mod _ _ (by omega)
theorem k_len : evE gl kd (callF PP k) ⟨0, []⟩ (CE.cmp Cop.gt (CE.blt Blt.len [(CE.var 0).idx (CE.cst (PV.int (0)))]) (CE.cst (PV.int (0)))) (σk pl many none none) (Yarn hs t c ps R) = .ok (.val (.bl (decide (0 < hs.length)))) (Yarn hs t c ps R) := by
  refine ev_cmp (x := .val (nI hs.length)) (y := .val (nI 0)) (ev_blt1 (x := .val (.ref 0)) (y_at 0 _ rfl) ?_) ev_cst ?_
  · rw [len_lst (xs := hs.map .int) rfl, List.length_map]
  · show some (decide (((0 : Nat) : Int) < hs.length)) = _
    congr 1
    exact decide_eq_decide.mpr (by omega)
theorem knot_ok {S : Sto} (h : YS S R) (hp : pl < 20) (hm2 : many < 1000000) : ∃ r S', callF PP (k + 1) ⟨0, []⟩ 17 [.ref 2, nI pl, nI many] S = .ok (.val (nI r)) S' ∧ YS S' R ∧ (2 ≤ many → r < many) ∧ (many < 2 → r = 0) := by
  obtain ⟨hs, t, c, ps, hl, ho, rfl⟩ := h
  by_cases hm : many < 2
  · refine ⟨0, _, ?_, ⟨hs, t, c, ps, hl, ho, rfl⟩, fun z => by omega, fun _ => rfl⟩
    refine call_raw (d := e17) rfl rfl rfl (exL_rt ((exS_ife (k := true) (tst_of (k_two (pl := pl) (many := many) (w := none) (x := none)) (by rw [decide_eq_true hm]; rfl))).trans ?_))
    rw [if_pos rfl]
    exact exL_rt (exS_ret ev_cst)
  · have s1 : ∀ hs : List Int, exS gl kd (callF PP k) ⟨0, []⟩ (CS.ife (CE.cmp Cop.lt (CE.var 2) (CE.cst (PV.int (2)))) [CS.ret (CE.cst (PV.int (0)))] []) (σk pl many none none) (Yarn hs t c ps R) = .ok (.nx (σk pl many none none)) (Yarn hs t c ps R) :=
      fun hs => (exS_ife (k := false) (tst_of k_two (by rw [decide_eq_false hm]; rfl))).trans (by rw [if_neg (by decide), exL])
    rcases List.eq_nil_or_concat hs with rfl | ⟨hs', s, rfl⟩
    · obtain ⟨r, S', e, ys, hr⟩ := k_rest (k := k) (hs := []) (t := t) (c := c + 1) (R := R) (many := many) ho hp hl (by omega) hm2
      refine ⟨r, S', call_raw (d := e17) rfl rfl rfl ((exL_nx (s1 _)).trans ((exL_nx k_count).trans ((exL_nx ((exS_ife (k := false) (tst_of k_len rfl)).trans (by rw [if_neg (by decide), exL]))).trans e))), ys, fun _ => hr, fun z => absurd z hm⟩
    · rw [List.concat_eq_append] at hl ⊢
      have hl' : hs'.length + 1 ≤ 100 := by rw [List.length_append] at hl; exact hl
      have hz : SZ = 16777216 := rfl
      have s3 : exS gl kd (callF PP k) ⟨0, []⟩ (CS.asg (Tg.var 4) (CE.mth Mth.pop ((CE.var 0).idx (CE.cst (PV.int (0)))) [])) (σk pl many none none) (Yarn (hs' ++ [s]) t (c + 1) ps R) = .ok (.nx (σk pl many none (some (.int s)))) (Yarn hs' t (c + 1) ps R) := by
        refine exS_asg (evP_val (ev_mth (x := .val (.ref 0)) (k := true) (y_at 0 _ rfl) rfl evL_nil ?_)) rfl
        show (match mthL .pop ((hs' ++ [s]).map .int) [] with
          | some (v, xs') => match put ⟨0, []⟩ 0 (.lst xs') (Yarn (hs' ++ [s]) t (c + 1) ps R) with
            | some S' => Mp.R.ok (EV.val v) S'
            | none => Mp.R.err
          | none => Mp.R.err) = _
        have e : mthL .pop ((hs' ++ [s]).map .int) [] = some (.int s, hs'.map .int) := by
          show (match ((hs' ++ [s]).map PV.int).getLast? with
            | some v => some (v, ((hs' ++ [s]).map PV.int).dropLast)
            | none => none) = _
          rw [List.map_append, List.map_singleton, List.getLast?_concat, List.dropLast_concat]
        rw [e]
        rfl
      have fin : ∀ hs'' : List Int, hs''.length ≤ 100 → exS gl kd (callF PP k) ⟨0, []⟩ (CS.ife (CE.cmp Cop.ge (CE.var 4) (CE.var 2))
        [CS.exp
            (CE.mth Mth.append ((CE.var 0).idx (CE.cst (PV.int (0))))
              [CE.bin Bop.fdiv (CE.var 4) (CE.var 2)])]
        []) (σk pl many none (some (.int s))) (Yarn hs' t (c + 1) ps R) = .ok (.nx (σk pl many none (some (.int s)))) (Yarn hs'' t (c + 1) ps R) →
          ∃ r S', callF PP (k + 1) ⟨0, []⟩ 17 [.ref 2, nI pl, nI many] (Yarn (hs' ++ [s]) t c ps R) = .ok (.val (nI r)) S' ∧ YS S' R ∧ (2 ≤ many → r < many) ∧ (many < 2 → r = 0) := by
        intro hs'' hl'' e
        refine ⟨(s % many).toNat, Yarn hs'' t (c + 1) ps R, ?_, ⟨hs'', t, c + 1, ps, hl'', ho, rfl⟩, fun _ => mod_lt (by omega), fun z => absurd z hm⟩
        refine call_raw (d := e17) rfl rfl rfl ((exL_nx (s1 _)).trans ((exL_nx k_count).trans (exL_rt ((exS_ife (k := true) (tst_of k_len ?_)).trans ?_))))
        · rw [List.length_append]
          show some (decide _) = _
          rw [decide_eq_true (by show 0 < hs'.length + 1; omega)]
        · rw [if_pos rfl]
          refine (exL_nx s3).trans ((exL_nx e).trans (exL_rt (exS_ret (ev_bin (x := .val (.int s)) (y := .val (nI many)) (ev_blt1 (x := .val (.int s)) (ev_var rfl) rfl) (ev_var rfl) ?_))))
          rw [← mod_nI (by omega)]
          exact b_mod _ _ (by omega)
      have tt : evE gl kd (callF PP k) ⟨0, []⟩ (CE.cmp Cop.ge (CE.var 4) (CE.var 2)) (σk pl many none (some (.int s))) (Yarn hs' t (c + 1) ps R) = .ok (.val (.bl (decide ((many : Int) ≤ s)))) (Yarn hs' t (c + 1) ps R) := ev_cmp (x := .val (.int s)) (y := .val (nI many)) (ev_var rfl) (ev_var rfl) rfl
      by_cases hg : (many : Int) ≤ s
      · refine fin (hs' ++ [s / many]) (by rw [List.length_append]; exact hl') ((exS_ife (k := true) (tst_of tt (by rw [decide_eq_true hg]; rfl))).trans ?_)
        rw [if_pos rfl]
        refine (exL_nx (exS_exp (v := .val .non) (S1 := Yarn (hs' ++ [s / many]) t (c + 1) ps R) (ev_mth (x := .val (.ref 0)) (k := true) (vs := [.int (s / many)]) (S2 := Yarn hs' t (c + 1) ps R) (y_at 0 _ rfl) rfl (evL_val (ev_bin (x := .val (.int s)) (y := .val (nI many)) (ev_var rfl) (ev_var rfl) (b_div _ _ (by omega) (by omega))) evL_nil) ?_))).trans (by rw [exL])
        show (match mthL .append (hs'.map .int) [.int (s / many)] with
          | some (v, xs') => match put ⟨0, []⟩ 0 (.lst xs') (Yarn hs' t (c + 1) ps R) with
            | some S' => Mp.R.ok (EV.val v) S'
            | none => Mp.R.err
          | none => Mp.R.err) = _
        have e : mthL .append (hs'.map .int) [.int (s / many)] = some (.non, (hs' ++ [s / many]).map .int) := by
          show (if (hs'.map PV.int).length < SZ then _ else _) = _
          rw [if_pos (by rw [List.length_map]; omega), List.map_append]
          rfl
        rw [e]
        rfl
      · exact fin hs' (by omega) ((exS_ife (k := false) (tst_of tt (by rw [decide_eq_false hg]; rfl))).trans (by rw [if_neg (by decide), exL]))
end
end K06
end partK06k

section partK06n
set_option linter.all false
set_option maxRecDepth 100000
/-! K06n: _law_to, _law_code. -/
namespace K06
open Mp
section
variable {k at' many : Nat} {R : Sto} {S : Sto}
theorem min_nats {S : Sto} (a b : Nat) : bltE .min [.val (nI a), .val (nI b)] S = some (.val (nI (min a b))) := by
  show some (EV.val (.int (min (a : Int) b))) = some (EV.val (.int ((min a b : Nat) : Int)))
  rw [show ((min a b : Nat) : Int) = min (a : Int) b by omega]
theorem add_nats {S : Sto} (a b : Nat) : binE .add (.val (nI a)) (.val (nI b)) S = some (.val (nI (a + b))) := rfl
theorem sub1_nats {S : Sto} (a : Nat) (h : 0 < a) : binE .sub (.val (nI a)) (.val (nI 1)) S = some (.val (nI (a - 1))) := by
  rw [← sub_one h]; rfl
theorem exS_no {gl : List PV} {kd : List KD} {F : FT} {G : Grd} {σ : Env} {S S1 : Sto} {c : CE} {a : List CS} (h : tst gl kd F G c σ S = .ok false S1) : exS gl kd F G (.ife c a []) σ S = .ok (.nx σ) S1 :=
  (exS_ife h).trans (by rw [if_neg (by decide), exL])
theorem exS_yes {gl : List PV} {kd : List KD} {F : FT} {G : Grd} {σ : Env} {S S1 S2 : Sto} {c : CE} {a b : List CS} {f : Fl} (h : tst gl kd F G c σ S = .ok true S1) (h2 : exL gl kd F G a σ S1 = .ok f S2) : exS gl kd F G (.ife c a b) σ S = .ok f S2 :=
  (exS_ife h).trans (by rw [if_pos rfl, h2])
theorem ev_knot {σ : Env} {pl many r : Nat} {S' : Sto} {c : CE} (h0 : σ[0]? = some (some (.ref 2))) (hc : evE gl kd (callF PP k) ⟨0, []⟩ c σ S = .ok (.val (nI many)) S) (h : callF PP k ⟨0, []⟩ 17 [.ref 2, nI pl, nI many] S = .ok (.val (nI r)) S') :
    evE gl kd (callF PP k) ⟨0, []⟩ (CE.call 17 [CE.var 0, CE.cst (PV.int pl), c]) σ S = .ok (.val (nI r)) S' :=
  (ev_call (evL_val (ev_var h0) (evL_val (z := nI pl) ev_cst (evL_val hc evL_nil)))).trans h
theorem eq_var {σ : Env} {F : FT} {i r n : Nat} (h : σ[i]? = some (some (nI r))) : evE gl kd F ⟨0, []⟩ (CE.cmp Cop.eq (CE.var i) (CE.cst (PV.int n))) σ S = .ok (.val (.bl (decide (r = n)))) S :=
  ev_cmp (x := .val (nI r)) (y := .val (nI n)) (ev_var h) ev_cst (eq_nats (S := S) r n)
theorem to_ok (h : YS S R) (ha : at' < many) (hm : many < 1000000) : ∃ r S', callF PP (k + 2) ⟨0, []⟩ 18 [.ref 2, nI at', nI many] S = .ok (.val (nI r)) S' ∧ YS S' R ∧ r < many := by
  obtain ⟨w, S1, e1, y1, hw, _⟩ := knot_ok (k := k) (pl := 1) (many := 6) h (by decide) (by decide)
  have hw := hw (by decide)
  let σ0 : Env := [some (.ref 2), some (nI at'), some (nI many), none]
  let σ1 : Env := [some (.ref 2), some (nI at'), some (nI many), some (nI w)]
  have s1 : exS gl kd (callF PP (k + 1)) ⟨0, []⟩ (CS.asg (Tg.var 3) (CE.call 17 [CE.var 0, CE.cst (PV.int (1)), CE.cst (PV.int (6))])) σ0 S = .ok (.nx σ1) S1 :=
    exS_asg (evP_val (ev_knot (pl := 1) (many := 6) rfl ev_cst e1)) rfl
  have m1 : ∀ S : Sto, evE gl kd (callF PP (k + 1)) ⟨0, []⟩ (CE.bin Bop.sub (CE.var 2) (CE.cst (PV.int (1)))) σ1 S = .ok (.val (nI (many - 1))) S := fun S =>
    ev_bin (x := .val (nI many)) (y := .val (nI 1)) (ev_var rfl) ev_cst (sub1_nats many (by omega))
  have a1 : ∀ S : Sto, evE gl kd (callF PP (k + 1)) ⟨0, []⟩ (CE.bin Bop.add (CE.var 1) (CE.cst (PV.int (1)))) σ1 S = .ok (.val (nI (at' + 1))) S := fun S =>
    ev_bin (x := .val (nI at')) (y := .val (nI 1)) (ev_var rfl) ev_cst (add_nats at' 1)
  have q : ∀ n : Nat, tst gl kd (callF PP (k + 1)) ⟨0, []⟩ (CE.cmp Cop.eq (CE.var 3) (CE.cst (PV.int n))) σ1 S1 = .ok (decide (w = n)) S1 := fun n => tst_of (eq_var rfl) rfl
  have done : ∀ (r : Nat) (S' : Sto), exL gl kd (callF PP (k + 1)) ⟨0, []⟩ (b18.drop 1) σ1 S1 = .ok (.rt (.val (nI r))) S' → callF PP (k + 2) ⟨0, []⟩ 18 [.ref 2, nI at', nI many] S = .ok (.val (nI r)) S' := fun r S' e =>
    call_raw (d := e18) rfl rfl rfl ((exL_nx s1).trans e)
  have q0 := q 0
  have q1 := q 1
  have q2 := q 2
  by_cases h0 : w = 0
  · rw [decide_eq_true h0] at q0
    refine ⟨min (at' + 1) (many - 1), S1, done _ _ (exL_rt (exS_yes q0 (exL_rt (exS_ret (ev_blt (evB_cons (a1 S1) (evB_cons (m1 S1) evB_nil)) (min_nats _ _)))))), y1, by omega⟩
  · rw [decide_eq_false h0] at q0
    by_cases h1 : w = 1
    · rw [decide_eq_true h1] at q1
      obtain ⟨u, S2, e2, y2, hu, _⟩ := knot_ok (k := k) (pl := 2) (many := 3) y1 (by decide) (by decide)
      have hu := hu (by decide)
      have hx : ∃ r, [nI at', nI (many - 1), nI 0][u]? = some (nI r) ∧ r < many := by
        rcases (by omega : u = 0 ∨ u = 1 ∨ u = 2) with rfl | rfl | rfl
        · exact ⟨at', rfl, ha⟩
        · exact ⟨many - 1, rfl, by omega⟩
        · exact ⟨0, rfl, by omega⟩
      obtain ⟨r, hr, hlt⟩ := hx
      refine ⟨r, S2, done _ _ ((exL_nx (exS_no q0)).trans (exL_rt (exS_yes q1 (exL_rt (exS_ret ?_))))), y2, hlt⟩
      exact ev_idx (x := .val (.tup [nI at', nI (many - 1), nI 0])) (y := .val (nI u)) (ev_tup (evL_val (ev_var rfl) (evL_val (m1 S1) (evL_val (z := nI 0) ev_cst evL_nil))) (by show 3 ≤ SZ; decide)) (ev_knot (pl := 2) (many := 3) rfl ev_cst e2) (idx_tup hr)
    · rw [decide_eq_false h1] at q1
      by_cases h2 : w = 2
      · rw [decide_eq_true h2] at q2
        obtain ⟨u, S2, e2, y2, hu, _⟩ := knot_ok (k := k) (pl := 3) (many := 4) y1 (by decide) (by decide)
        refine ⟨min (many - 1) (at' + 1 + u), S2, done _ _ ((exL_nx (exS_no q0)).trans ((exL_nx (exS_no q1)).trans (exL_rt (exS_yes q2 (exL_rt (exS_ret ?_)))))), y2, by omega⟩
        exact ev_blt (evB_cons (m1 S1) (evB_cons (ev_bin (a1 S1) (ev_knot (pl := 3) (many := 4) rfl ev_cst e2) (add_nats _ _)) evB_nil)) (min_nats _ _)
      · rw [decide_eq_false h2] at q2
        obtain ⟨u, S2, e2, y2, hu, hu2⟩ := knot_ok (k := k) (pl := 4) (many := many) y1 (by decide) hm
        refine ⟨u, S2, done _ _ ((exL_nx (exS_no q0)).trans ((exL_nx (exS_no q1)).trans ((exL_nx (exS_no q2)).trans (exL_rt (exS_ret (ev_knot (pl := 4) rfl (ev_var rfl) e2)))))), y2, ?_⟩
        by_cases hh : 2 ≤ many
        · exact hu hh
        · have := hu2 (by omega); omega
end
/-! #### the store behind the yarn -/
theorem YS.get {S R : Sto} {o : PO} {l : Nat} (h : YS S R) (hl : R[l]? = some o) : S[l + 3]? = some o := by
  obtain ⟨hs, t, c, ps, _, _, rfl⟩ := h
  exact hl
theorem YS.set {S R : Sto} {o : PO} {l : Nat} (h : YS S R) : YS (S.set (l + 3) o) (R.set l o) := by
  obtain ⟨hs, t, c, ps, h1, h2, rfl⟩ := h
  exact ⟨hs, t, c, ps, h1, h2, rfl⟩
theorem YS.add {S R : Sto} {o : PO} (h : YS S R) : YS (S ++ [o]) (R ++ [o]) := by
  obtain ⟨hs, t, c, ps, h1, h2, rfl⟩ := h
  exact ⟨hs, t, c, ps, h1, h2, rfl⟩
theorem YS.len {S R : Sto} (h : YS S R) : S.length = R.length + 3 := by
  obtain ⟨hs, t, c, ps, h1, h2, rfl⟩ := h
  rfl
theorem app_ok {S : Sto} {l : Nat} {xs : List PV} {v : PV} (h : S[l]? = some (.lst xs)) (hl : xs.length < SZ) : mthE ⟨0, []⟩ .append (.val (.ref l)) [v] S = .ok (.val .non) (S.set l (.lst (xs ++ [v]))) := by
  simp only [mthE, h, mthL]
  rw [if_pos hl]
  rfl
theorem isLst_ref {S : Sto} {l : Nat} {xs : List PV} (h : S[l]? = some (.lst xs)) : isLst (.val (.ref l)) S = some true := by
  simp only [isLst, itL, h]
  rfl
theorem get_last {R : Sto} {o : PO} : (R ++ [o])[R.length]? = some o := get_new
theorem set_last {R : Sto} {o u : PO} : (R ++ [o]).set R.length u = R ++ [u] := by simp
def Tos (n : Nat) (ds : List Cmd) : Prop := ∀ c ∈ ds, ∀ t, c.to = some t → t < n
theorem Tos.add {n : Nat} {ds : List Cmd} {c : Cmd} (h : Tos n ds) (hc : ∀ t, c.to = some t → t < n) : Tos n (ds ++ [c]) := by
  intro d hd
  rcases List.mem_append.mp hd with e | e
  · exact h d e
  · have : d = c := by simpa using e
    subst this
    exact hc
def lp19 : List CS := [CS.asg (Tg.var 5) (CE.call 18 [CE.var 0, CE.var 3, CE.var 1]),
      CS.asg (Tg.var 6) (CE.call 17 [CE.var 0, CE.cst (PV.int (5)), CE.cst (PV.int (15))]),
      CS.ife (CE.cmp Cop.lt (CE.var 6) (CE.cst (PV.int (6))))
        [CS.exp (CE.mth Mth.append (CE.var 2) [CE.tup [CE.cst (PV.str [103, 111]), CE.var 5]])]
        [CS.exp
            (CE.mth Mth.append (CE.var 2)
              [(CE.tup
                      [CE.tup
                          [CE.cst (PV.str [105, 102]), CE.cst (PV.int (1)), CE.cst (PV.int (2)),
                            CE.var 5],
                        CE.tup [CE.cst (PV.str [101, 105, 116, 104, 101, 114]), CE.var 5],
                        CE.tup
                          [CE.cst (PV.str [97, 115, 107]), CE.cst (PV.int (0)), CE.cst (PV.int (1)),
                            CE.var 5],
                        CE.tup
                          [CE.cst (PV.str [112, 117, 116]), CE.cst (PV.int (0)),
                            CE.cst (PV.int (1))],
                        CE.tup [CE.cst (PV.str [115, 116, 111, 112])],
                        CE.tup
                          [CE.cst (PV.str [119, 97, 105, 116]), CE.cst (PV.int (1)),
                            CE.cst (PV.int (0))],
                        CE.tup [CE.cst (PV.str [109, 97, 114, 107]), CE.cst (PV.str [105, 110])],
                        CE.tup
                          [CE.cst (PV.str [115, 101, 116]), CE.cst (PV.int (0)),
                            CE.cst (PV.int (2))],
                        CE.tup
                          [CE.cst (PV.str [108, 111, 111, 107]), CE.cst (PV.int (0)),
                            CE.cst (PV.int (1))]]).idx
                  (CE.bin Bop.sub (CE.var 6) (CE.cst (PV.int (6))))])]]
section
variable {k many : Nat} {R : Sto}
theorem ev_app {F : FT} {σ : Env} {S : Sto} {i l : Nat} {xs : List PV} {e : CE} {v : PV} (h0 : σ[i]? = some (some (.ref l))) (hS : S[l]? = some (.lst xs)) (hl : xs.length < SZ) (he : evE gl kd F ⟨0, []⟩ e σ S = .ok (.val v) S) :
    exS gl kd F ⟨0, []⟩ (CS.exp (CE.mth Mth.append (CE.var i) [e])) σ S = .ok (.nx σ) (S.set l (.lst (xs ++ [v]))) :=
  exS_exp (ev_mth (ev_var h0) (isLst_ref hS) (evL_val he evL_nil) (app_ok hS hl))
theorem lt_six {F : FT} {σ : Env} {S : Sto} {w : Nat} (h : σ[6]? = some (some (nI w))) : tst gl kd F ⟨0, []⟩ (CE.cmp Cop.lt (CE.var 6) (CE.cst (PV.int (6)))) σ S = .ok (decide (w < 6)) S := by
  refine tst_of (v := .val (.bl (decide (w < 6)))) (ev_cmp (x := .val (nI w)) (y := .val (nI 6)) (ev_var h) ev_cst ?_) rfl
  show some (decide ((w : Int) < (6 : Nat))) = _
  congr 1
  exact decide_eq_decide.mpr (by omega)
theorem loop19 (hm : many < 1000000) : ∀ (m i : Nat) (ds : List Cmd) (S : Sto) (x3 x4 x5 x6 : Option PV), i + m = many - 1 → ds.length = i → Tos many ds → YS S (R ++ [.lst (ds.map Cmd.pv)]) →
    ∃ ds' S' y3 y5 y6, forF ⟨0, []⟩ (.var 3) (fun σ S => exL gl kd (callF PP (k + 2)) ⟨0, []⟩ lp19 σ S) ((List.range' i m).map nI) [some (.ref 2), some (nI many), some (.ref (R.length + 3)), x3, x4, x5, x6] S = .ok (.nx [some (.ref 2), some (nI many), some (.ref (R.length + 3)), y3, x4, y5, y6]) S' ∧
      ds'.length = many - 1 ∧ Tos many ds' ∧ YS S' (R ++ [.lst (ds'.map Cmd.pv)])
  | 0, i, ds, S, x3, x4, x5, x6, h, hl, ht, y => ⟨ds, S, x3, x5, x6, rfl, by omega, ht, y⟩
  | m + 1, i, ds, S, x3, x4, x5, x6, h, hl, ht, y => by
    have hz : SZ = 16777216 := rfl
    obtain ⟨to, S1, e1, y1, hto⟩ := to_ok (k := k) (at' := i) (many := many) y (by omega) hm
    obtain ⟨w, S2, e2, y2, hw, _⟩ := knot_ok (k := k + 1) (pl := 5) (many := 15) y1 (by decide) (by decide)
    have hw := hw (by decide)
    let σ1 : Env := [some (.ref 2), some (nI many), some (.ref (R.length + 3)), some (nI i), x4, x5, x6]
    let σ2 : Env := [some (.ref 2), some (nI many), some (.ref (R.length + 3)), some (nI i), x4, some (nI to), x6]
    let σ3 : Env := [some (.ref 2), some (nI many), some (.ref (R.length + 3)), some (nI i), x4, some (nI to), some (nI w)]
    have hS : S2[R.length + 3]? = some (.lst (ds.map Cmd.pv)) := y2.get get_last
    have s1 : exS gl kd (callF PP (k + 2)) ⟨0, []⟩ (CS.asg (Tg.var 5) (CE.call 18 [CE.var 0, CE.var 3, CE.var 1])) σ1 S = .ok (.nx σ2) S1 :=
      exS_asg (evP_val ((ev_call (evL_val (ev_var rfl) (evL_val (ev_var rfl) (evL_val (ev_var rfl) evL_nil)))).trans e1)) rfl
    have s2 : exS gl kd (callF PP (k + 2)) ⟨0, []⟩ (CS.asg (Tg.var 6) (CE.call 17 [CE.var 0, CE.cst (PV.int (5)), CE.cst (PV.int (15))])) σ2 S1 = .ok (.nx σ3) S2 :=
      exS_asg (evP_val (ev_knot (pl := 5) (many := 15) rfl ev_cst e2)) rfl
    have go : ∀ c : Cmd, (∀ t, c.to = some t → t < many) → exS gl kd (callF PP (k + 2)) ⟨0, []⟩ (lp19.getD 2 .bad) σ3 S2 = .ok (.nx σ3) (S2.set (R.length + 3) (.lst (ds.map Cmd.pv ++ [c.pv]))) →
        ∃ ds' S' y3 y5 y6, forF ⟨0, []⟩ (.var 3) (fun σ S => exL gl kd (callF PP (k + 2)) ⟨0, []⟩ lp19 σ S) ((List.range' i (m + 1)).map nI) [some (.ref 2), some (nI many), some (.ref (R.length + 3)), x3, x4, x5, x6] S = .ok (.nx [some (.ref 2), some (nI many), some (.ref (R.length + 3)), y3, x4, y5, y6]) S' ∧
          ds'.length = many - 1 ∧ Tos many ds' ∧ YS S' (R ++ [.lst (ds'.map Cmd.pv)]) := by
      intro c hc e
      have y3 := y2.set (l := R.length) (o := .lst ((ds ++ [c]).map Cmd.pv))
      rw [set_last] at y3
      obtain ⟨ds', S', a, b, d, e', r1, r2, r3⟩ := loop19 hm m (i + 1) (ds ++ [c]) _ (some (nI i)) x4 (some (nI to)) (some (nI w)) (by omega) (by rw [List.length_append, hl]; rfl) (ht.add hc) y3
      refine ⟨ds', S', a, b, d, ?_, r1, r2, r3⟩
      rw [List.range'_succ, List.map_cons]
      rw [List.map_append] at e'
      exact (forF_nx (σ1 := σ1) (σ2 := σ3) rfl ((exL_nx s1).trans ((exL_nx s2).trans ((exL_nx e).trans (by rw [exL]; rfl))))).trans e'
    have hlen : (ds.map Cmd.pv).length < SZ := by rw [List.length_map]; omega
    by_cases h6 : w < 6
    · refine go (.go to) (fun t ht => by cases ht; exact hto) (exS_yes (by rw [lt_six (w := w) rfl, decide_eq_true h6]) ((exL_nx (ev_app rfl hS hlen (ev_tup (evL_val ev_cst (evL_val (ev_var rfl) evL_nil)) (by show 2 ≤ SZ; decide)))).trans (by rw [exL]; rfl)))
    · have oth : ∀ c : Cmd, evE gl kd (callF PP (k + 2)) ⟨0, []⟩ ((CE.tup
                      [CE.tup
                          [CE.cst (PV.str [105, 102]), CE.cst (PV.int (1)), CE.cst (PV.int (2)),
                            CE.var 5],
                        CE.tup [CE.cst (PV.str [101, 105, 116, 104, 101, 114]), CE.var 5],
                        CE.tup
                          [CE.cst (PV.str [97, 115, 107]), CE.cst (PV.int (0)), CE.cst (PV.int (1)),
                            CE.var 5],
                        CE.tup
                          [CE.cst (PV.str [112, 117, 116]), CE.cst (PV.int (0)),
                            CE.cst (PV.int (1))],
                        CE.tup [CE.cst (PV.str [115, 116, 111, 112])],
                        CE.tup
                          [CE.cst (PV.str [119, 97, 105, 116]), CE.cst (PV.int (1)),
                            CE.cst (PV.int (0))],
                        CE.tup [CE.cst (PV.str [109, 97, 114, 107]), CE.cst (PV.str [105, 110])],
                        CE.tup
                          [CE.cst (PV.str [115, 101, 116]), CE.cst (PV.int (0)),
                            CE.cst (PV.int (2))],
                        CE.tup
                          [CE.cst (PV.str [108, 111, 111, 107]), CE.cst (PV.int (0)),
                            CE.cst (PV.int (1))]]).idx
                  (CE.bin Bop.sub (CE.var 6) (CE.cst (PV.int (6))))) σ3 S2 = .ok (.val c.pv) S2 → exS gl kd (callF PP (k + 2)) ⟨0, []⟩ (lp19.getD 2 .bad) σ3 S2 = .ok (.nx σ3) (S2.set (R.length + 3) (.lst (ds.map Cmd.pv ++ [c.pv]))) := by
        intro c hc
        exact (exS_ife (k := false) (by rw [lt_six (w := w) rfl, decide_eq_false h6])).trans (by rw [if_neg (by decide)]; exact (exL_nx (ev_app rfl hS hlen hc)).trans (by rw [exL]))
      have no : ∀ c : Cmd, c.to = none → ∀ t, c.to = some t → t < many := fun c h t h2 => by rw [h] at h2; cases h2
      rcases (by omega : w = 6 ∨ w = 7 ∨ w = 8 ∨ w = 9 ∨ w = 10 ∨ w = 11 ∨ w = 12 ∨ w = 13 ∨ w = 14) with rfl | rfl | rfl | rfl | rfl | rfl | rfl | rfl | rfl
      · exact go (.iff to) (fun t ht => by cases ht; exact hto) (oth (.iff to) (by kernel_rfl))
      · exact go (.either to) (fun t ht => by cases ht; exact hto) (oth (.either to) (by kernel_rfl))
      · exact go (.ask to) (fun t ht => by cases ht; exact hto) (oth (.ask to) (by kernel_rfl))
      · exact go .put (no _ rfl) (oth .put (by kernel_rfl))
      · exact go .stop (no _ rfl) (oth .stop (by kernel_rfl))
      · exact go .wait (no _ rfl) (oth .wait (by kernel_rfl))
      · exact go .mark (no _ rfl) (oth .mark (by kernel_rfl))
      · exact go .set (no _ rfl) (oth .set (by kernel_rfl))
      · exact go .look (no _ rfl) (oth .look (by kernel_rfl))
theorem bin_tups {S : Sto} (xs ys : List PV) (h : xs.length + ys.length ≤ SZ) : binE .add (.val (.tup xs)) (.val (.tup ys)) S = some (.val (.tup (xs ++ ys))) := by
  show (if xs.length + ys.length ≤ SZ then some (EV.val (.tup (xs ++ ys))) else none) = _
  rw [if_pos h]
theorem tuple_lst {S : Sto} {l : Nat} {xs : List PV} (h : S[l]? = some (.lst xs)) : bltE .tuple [.val (.ref l)] S = some (.val (.tup xs)) := by
  simp only [bltE, one, bTuple, itT, itL, h]
  rfl
theorem okC_of {ds : List Cmd} {c : Cmd} (h : Tos (ds ++ [c]).length (ds ++ [c])) (hc : c.fin = true) : OkC (ds ++ [c]) := by
  refine ⟨by simp, fun a d hd t ht => h d (List.mem_of_getElem? hd) t ht, fun a d hd hl => ?_⟩
  have : a = ds.length := by rw [List.length_append] at hl; simp at hl; omega
  subst this
  rw [show (ds ++ [c])[ds.length]? = some c by simp] at hd
  cases hd
  exact hc
theorem code_ok {S : Sto} (h : YS S R) (hp : 0 < many) (hm : many < 1000000) : ∃ cs S' R', callF PP (k + 3) ⟨0, []⟩ 19 [.ref 2, nI many] S = .ok (.val (code cs)) S' ∧ YS S' R' ∧ cs.length = many ∧ OkC cs := by
  have hz : SZ = 16777216 := rfl
  obtain ⟨ds, S1, y3, y5, y6, e1, hl, ht, y1⟩ := loop19 (k := k) (R := R) hm (many - 1) 0 [] (S ++ [.lst []]) none none none none (by omega) rfl (by intro c hc; cases hc) h.add
  let σ0 : Env := [some (.ref 2), some (nI many), none, none, none, none, none]
  let σ1 : Env := [some (.ref 2), some (nI many), some (.ref (R.length + 3)), none, none, none, none]
  let σ2 : Env := [some (.ref 2), some (nI many), some (.ref (R.length + 3)), y3, none, y5, y6]
  have s1 : exS gl kd (callF PP (k + 2)) ⟨0, []⟩ (CS.asg (Tg.var 2) (CE.lst [])) σ0 S = .ok (.nx σ1) (S ++ [.lst []]) :=
    exS_asg (evP_tmp (ev_lst evL_nil (by show 0 ≤ SZ; decide))) (by rw [h.len]; rfl)
  have m1 : ∀ (S : Sto) (σ : Env), σ[1]? = some (some (nI many)) → evE gl kd (callF PP (k + 2)) ⟨0, []⟩ (CE.bin Bop.sub (CE.var 1) (CE.cst (PV.int (1)))) σ S = .ok (.val (nI (many - 1))) S := fun S σ h1 =>
    ev_bin (x := .val (nI many)) (y := .val (nI 1)) (ev_var h1) ev_cst (sub1_nats many hp)
  have s2 : exS gl kd (callF PP (k + 2)) ⟨0, []⟩ (CS.frr (Tg.var 3) (CI.rng1 (CE.bin Bop.sub (CE.var 1) (CE.cst (PV.int (1))))) lp19) σ1 (S ++ [.lst []]) = .ok (.nx σ2) S1 :=
    (exS_frr (evI_rng1 (j := Int.ofNat (many - 1)) (m1 _ _ rfl) (rngW_nat (by omega)))).trans e1
  obtain ⟨w, S2, e2, y2, hw, _⟩ := knot_ok (k := k + 1) (pl := 6) (many := 2) y1 (by decide) (by decide)
  have hw := hw (by decide)
  have q : evE gl kd (callF PP (k + 2)) ⟨0, []⟩ (CE.cmp Cop.eq (CE.call 17 [CE.var 0, CE.cst (PV.int (6)), CE.cst (PV.int (2))]) (CE.cst (PV.int (0)))) σ2 S1 = .ok (.val (.bl (decide (w = 0)))) S2 :=
    ev_cmp (x := .val (nI w)) (y := .val (nI 0)) (ev_knot (pl := 6) (many := 2) rfl ev_cst e2) ev_cst (eq_nats (S := S2) w 0)
  have fin : ∀ (c : Cmd) (S3 : Sto), (∀ t, c.to = some t → t < many) → c.fin = true → YS S3 (R ++ [.lst (ds.map Cmd.pv)]) →
      evE gl kd (callF PP (k + 2)) ⟨0, []⟩ ((CE.cmp Cop.eq (CE.call 17 [CE.var 0, CE.cst (PV.int (6)), CE.cst (PV.int (2))])
          (CE.cst (PV.int (0)))).ite
      (CE.tup [CE.cst (PV.str [115, 116, 111, 112])])
      (CE.tup
        [CE.cst (PV.str [103, 111]),
          CE.call 18 [CE.var 0, CE.bin Bop.sub (CE.var 1) (CE.cst (PV.int (1))), CE.var 1]])) σ2 S1 = .ok (.val c.pv) S3 →
      ∃ cs S' R', callF PP (k + 3) ⟨0, []⟩ 19 [.ref 2, nI many] S = .ok (.val (code cs)) S' ∧ YS S' R' ∧ cs.length = many ∧ OkC cs := by
    intro c S3 hc hf y e
    have hlen : (ds ++ [c]).length = many := by rw [List.length_append, hl]; simp; omega
    refine ⟨ds ++ [c], S3, _, call_raw (d := e19) rfl rfl rfl ((exL_nx s1).trans ((exL_nx s2).trans ((exL_nx (σ1 := [some (.ref 2), some (nI many), some (.ref (R.length + 3)), y3, some c.pv, y5, y6]) (exS_asg (evP_val e) rfl)).trans (exL_rt (exS_ret ?_))))), y, hlen, okC_of (by rw [hlen]; exact ht.add hc) hf⟩
    have hS : S3[R.length + 3]? = some (.lst (ds.map Cmd.pv)) := y.get get_last
    refine ev_tup (vs := [.tup [.int 2], cds (ds ++ [c])]) (evL_val (ev_tup (evL_val ev_cst evL_nil) (by show 1 ≤ SZ; decide)) (evL_val ?_ evL_nil)) (by show 2 ≤ SZ; decide)
    refine ev_bin (x := .val (.tup (ds.map Cmd.pv))) (y := .val (.tup [c.pv])) (ev_blt1 (ev_var rfl) (tuple_lst hS)) (ev_tup (evL_val (ev_var rfl) evL_nil) (by show 1 ≤ SZ; decide)) ?_
    rw [bin_tups _ _ (by rw [List.length_map]; show ds.length + 1 ≤ SZ; omega)]
    show _ = some (EV.val (.tup ((ds ++ [c]).map Cmd.pv)))
    rw [List.map_append]
    rfl
  by_cases h0 : w = 0
  · rw [decide_eq_true h0] at q
    exact fin .stop S2 (fun t ht => by cases ht) rfl y2 ((ev_iteT q rfl).trans (ev_tup (evL_val ev_cst evL_nil) (by show 1 ≤ SZ; decide)))
  · rw [decide_eq_false h0] at q
    obtain ⟨to, S3, e3, y3', hto⟩ := to_ok (k := k) (at' := many - 1) (many := many) y2 (by omega) hm
    exact fin (.go to) S3 (fun t ht => by cases ht; exact hto) rfl y3' ((ev_iteF q rfl).trans (ev_tup (evL_val ev_cst (evL_val ((ev_call (evL_val (ev_var rfl) (evL_val (m1 _ _ rfl) (evL_val (ev_var rfl) evL_nil)))).trans e3) evL_nil)) (by show 2 ≤ SZ; decide)))
end
end K06
end partK06n

section partK06o
set_option linter.all false
set_option maxRecDepth 100000
/-! K06o: _law_yarn. -/
namespace K06
open Mp
theorem b_shl {S : Sto} (i j : Int) (h : 0 ≤ j ∧ j ≤ 1000000 ∧ inB i = true) : binE .shl (.val (.int i)) (.val (.int j)) S = some (.val (.int (i * 2 ^ j.toNat))) := by
  show (binI .shl i j).map _ = _
  unfold binI
  dsimp only
  rw [if_pos h]
  rfl
theorem b_pow {S : Sto} (i j : Int) (h : 0 ≤ j ∧ j ≤ 1000000 ∧ inB i = true) : binE .pow (.val (.int i)) (.val (.int j)) S = some (.val (.int (i ^ j.toNat))) := by
  show (binI .pow i j).map _ = _
  unfold binI
  dsimp only
  rw [if_pos h]
  rfl
theorem shl_K {S : Sto} : ∃ K : Int, 0 < K ∧ binE .shl (.val (.int 1)) (.val (.int 1900)) S = some (.val (.int K)) :=
  ⟨_, Int.mul_pos (by decide) (Int.pow_pos (by decide)), b_shl 1 1900 ⟨by decide, by decide, by decide⟩⟩
theorem pow_K {S : Sto} : ∃ K : Int, binE .pow (.val (.int 10)) (.val (.int 15)) S = some (.val (.int K)) :=
  ⟨_, b_pow 10 15 ⟨by decide, by decide, by decide⟩⟩
def lp16 : List CS := [CS.asg (Tg.var 4)
        (CE.bin Bop.mod (CE.blt Blt.abs [CE.blt Blt.int [(CE.var 0).idx (CE.var 3)]])
          (CE.bin Bop.shl (CE.cst (PV.int (1))) (CE.cst (PV.int (1900))))),
      CS.asg (Tg.var 1)
        (CE.bin Bop.mod
          (CE.blt Blt.int
            [CE.bin Bop.add
                (CE.bin Bop.add (CE.bin Bop.mul (CE.var 1) (CE.cst (PV.int (28001))))
                  (CE.bin Bop.mod (CE.var 4) (CE.cst (PV.int (1000289)))))
                (CE.bin Bop.mul (CE.cst (PV.int (17))) (CE.var 3))])
          (CE.cst (PV.int (2147481589)))),
      CS.ife
        (CE.cmp Cop.ge (CE.var 4) (CE.bin Bop.pow (CE.cst (PV.int (10))) (CE.cst (PV.int (15)))))
        [CS.exp (CE.mth Mth.insert (CE.var 2) [CE.cst (PV.int (0)), CE.var 4])] []]
section
variable {k : Nat} {ns : List Int}
theorem b_mulL {S : Sto} (i j : Int) (h : inB i = true) : binE .mul (.val (.int i)) (.val (.int j)) S = some (.val (.int (i * j))) := by
  show (binI .mul i j).map _ = _
  unfold binI
  dsimp only
  rw [h, Bool.true_or, if_pos rfl]
  rfl
theorem loop16 : ∀ (m i : Nat) (t : Int) (hs : List Int) (x3 x4 : Option PV), i + m ≤ ns.length → i + m ≤ 48 → hs.length ≤ i →
    ∃ (t' : Int) (hs' : List Int) (y3 y4 : Option PV), forF ⟨0, []⟩ (.var 3) (fun σ S => exL gl kd (callF PP k) ⟨0, []⟩ lp16 σ S) ((List.range' i m).map nI) [some (.rol ns), some (.int t), some (.ref 0), x3, x4] [.lst (hs.map .int)] = .ok (.nx [some (.rol ns), some (.int t'), some (.ref 0), y3, y4]) [.lst (hs'.map .int)] ∧ hs'.length ≤ 48
  | 0, i, t, hs, x3, x4, _, h2, h3 => ⟨t, hs, x3, x4, rfl, by omega⟩
  | m + 1, i, t, hs, x3, x4, h1, h2, h3 => by
    have hz : SZ = 16777216 := rfl
    have hx : ns[i]? = some (ns[i]'(by omega)) := List.getElem?_eq_getElem _
    generalize ns[i]'(by omega) = v at hx
    obtain ⟨K, hK, eK⟩ := shl_K (S := [.lst (hs.map .int)])
    obtain ⟨P, eP⟩ := pow_K (S := [.lst (hs.map .int)])
    let cell : Int := (v.natAbs : Int) % K
    let t' : Int := (t * 28001 + cell % 1000289 + 17 * i) % 2147481589
    have s1 : exS gl kd (callF PP k) ⟨0, []⟩ (lp16.getD 0 .bad) [some (.rol ns), some (.int t), some (.ref 0), some (nI i), x4] [.lst (hs.map .int)] = .ok (.nx [some (.rol ns), some (.int t), some (.ref 0), some (nI i), some (.int cell)]) [.lst (hs.map .int)] := by
      refine exS_asg (evP_val (ev_bin (x := .val (.int v.natAbs)) (y := .val (.int K)) (ev_blt1 (x := .val (.int v)) (ev_blt1 (x := .val (.int v)) (ev_idx (x := .val (.rol ns)) (y := .val (nI i)) (ev_var rfl) (ev_var rfl) ?_) rfl) rfl) (ev_bin ev_cst ev_cst eK) (b_mod _ _ hK))) rfl
      show pyIdx (ns.map PV.int) (i : Nat) = _
      exact pyIdx_nat (by rw [List.getElem?_map, hx]; rfl)
    have s2 : exS gl kd (callF PP k) ⟨0, []⟩ (lp16.getD 1 .bad) [some (.rol ns), some (.int t), some (.ref 0), some (nI i), some (.int cell)] [.lst (hs.map .int)] = .ok (.nx [some (.rol ns), some (.int t'), some (.ref 0), some (nI i), some (.int cell)]) [.lst (hs.map .int)] :=
      exS_asg (evP_val (ev_bin (ev_blt1 (ev_bin (ev_bin (ev_bin (ev_var (z := .int t) rfl) ev_cst (b_mul _ _ (by decide))) (ev_bin (ev_var (z := .int cell) rfl) ev_cst (b_mod _ _ (by decide))) rfl) (ev_bin ev_cst (ev_var (z := nI i) rfl) (b_mulL _ _ (by decide))) rfl) rfl) ev_cst (b_mod _ _ (by decide)))) rfl
    have tt : tst gl kd (callF PP k) ⟨0, []⟩ (CE.cmp Cop.ge (CE.var 4) (CE.bin Bop.pow (CE.cst (PV.int (10))) (CE.cst (PV.int (15))))) [some (.rol ns), some (.int t'), some (.ref 0), some (nI i), some (.int cell)] [.lst (hs.map .int)] = .ok (decide (P ≤ cell)) [.lst (hs.map .int)] :=
      tst_of (ev_cmp (x := .val (.int cell)) (y := .val (.int P)) (ev_var rfl) (ev_bin ev_cst ev_cst eP) rfl) rfl
    have go : ∀ hs2 : List Int, hs2.length ≤ i + 1 → exS gl kd (callF PP k) ⟨0, []⟩ (lp16.getD 2 .bad) [some (.rol ns), some (.int t'), some (.ref 0), some (nI i), some (.int cell)] [.lst (hs.map .int)] = .ok (.nx [some (.rol ns), some (.int t'), some (.ref 0), some (nI i), some (.int cell)]) [.lst (hs2.map .int)] →
        ∃ (t' : Int) (hs' : List Int) (y3 y4 : Option PV), forF ⟨0, []⟩ (.var 3) (fun σ S => exL gl kd (callF PP k) ⟨0, []⟩ lp16 σ S) ((List.range' i (m + 1)).map nI) [some (.rol ns), some (.int t), some (.ref 0), x3, x4] [.lst (hs.map .int)] = .ok (.nx [some (.rol ns), some (.int t'), some (.ref 0), y3, y4]) [.lst (hs'.map .int)] ∧ hs'.length ≤ 48 := by
      intro hs2 hl e
      obtain ⟨u, hs', a, b, e', r⟩ := loop16 m (i + 1) t' hs2 (some (nI i)) (some (.int cell)) (by omega) (by omega) hl
      refine ⟨u, hs', a, b, ?_, r⟩
      rw [List.range'_succ, List.map_cons]
      exact (forF_nx (σ1 := [some (.rol ns), some (.int t), some (.ref 0), some (nI i), x4]) (σ2 := [some (.rol ns), some (.int t'), some (.ref 0), some (nI i), some (.int cell)]) rfl ((exL_nx s1).trans ((exL_nx s2).trans ((exL_nx e).trans (by rw [exL]))))).trans e'
    by_cases hg : P ≤ cell
    · rw [decide_eq_true hg] at tt
      refine go (cell :: hs) (by rw [List.length_cons]; omega) (exS_yes tt ((exL_nx (exS_exp (v := .val .non) (S1 := [.lst ((cell :: hs).map .int)]) (ev_mth (x := .val (.ref 0)) (k := true) (vs := [.int 0, .int cell]) (S2 := [.lst (hs.map .int)]) (ev_var rfl) rfl (evL_val ev_cst (evL_val (ev_var rfl) evL_nil)) ?_))).trans (by rw [exL])))
      show (match mthL .insert (hs.map .int) [.int 0, .int cell] with
          | some (v, xs') => match put ⟨0, []⟩ 0 (.lst xs') [.lst (hs.map .int)] with
            | some S' => Mp.R.ok (EV.val v) S'
            | none => Mp.R.err
          | none => Mp.R.err) = _
      have e : mthL .insert (hs.map .int) [.int 0, .int cell] = some (.non, (cell :: hs).map .int) := by
        show (if 0 ≤ (0 : Int) ∧ (0 : Int) < 2 ^ 63 ∧ (hs.map PV.int).length < SZ then _ else _) = _
        rw [if_pos ⟨by decide, by decide, by rw [List.length_map]; omega⟩]
        rfl
      rw [e]
      rfl
    · rw [decide_eq_false hg] at tt
      exact go hs (by omega) (exS_no tt)
theorem ev_dct0 {gl : List PV} {kd : List KD} {F : FT} {G : Grd} {σ : Env} {S : Sto} : evE gl kd F G .dct0 σ S = .ok (.tmp (.dct [])) S := by rw [evE]
theorem yarn_ok (h : ns.length ≤ 63) : ∃ (hs : List Int) (t : Int), callF PP (k + 1) ⟨0, []⟩ 16 [.rol ns] [] = .ok (.tmp (.lst [.ref 0, .int t, .int 0, .ref 1])) [.lst (hs.map .int), .dct []] ∧ hs.length ≤ 48 := by
  have hz : SZ = 16777216 := rfl
  obtain ⟨t, hs, y3, y4, e, hl⟩ := loop16 (k := k) (ns := ns) (min ns.length 48) 0 606017 [] none none (by omega) (by omega) (Nat.le_refl _)
  refine ⟨hs, t, call_raw (d := e16) rfl rfl rfl ?_, hl⟩
  refine (exL_nx (σ1 := [some (.rol ns), some (.int 606017), none, none, none]) (exS_asg (evP_val ev_cst) rfl)).trans ?_
  refine (exL_nx (σ1 := [some (.rol ns), some (.int 606017), some (.ref 0), none, none]) (S1 := [.lst []]) (exS_asg (evP_tmp (ev_lst evL_nil (by show 0 ≤ SZ; decide))) rfl)).trans ?_
  refine (exL_nx (σ1 := [some (.rol ns), some (.int t), some (.ref 0), y3, y4]) (S1 := [.lst (hs.map .int)]) ((exS_frr (evI_rng1 (j := Int.ofNat (min ns.length 48)) (ev_blt (evB_cons (x := .val (nI ns.length)) (ev_blt1 (x := .val (.rol ns)) (ev_var rfl) ?_) (evB_cons (x := .val (nI 48)) ev_cst evB_nil)) (min_nats _ _)) (rngW_nat (by omega)))).trans e)).trans ?_
  · show some (EV.val (.int ((ns.map PV.int).length : Nat))) = _
    rw [List.length_map]
    rfl
  · exact exL_rt (exS_ret (ev_lst (evL_val (ev_var rfl) (evL_val (ev_var rfl) (evL_val ev_cst (evL_tmp (o := .dct []) ev_dct0 evL_nil)))) (by show 4 ≤ SZ; decide)))
end
end K06
end partK06o

section partK06f
set_option linter.all false
set_option maxRecDepth 100000
/-! K06f: _law_sheet. -/
namespace K06
open Mp
theorem add_ll {S : Sto} {l : Nat} {xs ys : List PV} (h : S[l]? = some (.lst xs)) (hl : xs.length + ys.length ≤ SZ) : binE .add (.val (.ref l)) (.tmp (.lst ys)) S = some (.tmp (.lst (xs ++ ys))) := by
  simp only [binE, itL, h]
  rw [if_pos hl]
theorem add_tt {S : Sto} {xs ys : List PV} (hl : xs.length + ys.length ≤ SZ) : binE .add (.tmp (.lst xs)) (.tmp (.lst ys)) S = some (.tmp (.lst (xs ++ ys))) := by
  simp only [binE, itL]
  rw [if_pos hl]
theorem mul_one' {S : Sto} {v : PV} {m : Nat} (h : m ≤ 1000) : binE .mul (.tmp (.lst [v])) (.val (nI m)) S = some (.tmp (.lst (List.replicate m v))) := by
  have hz : SZ = 16777216 := rfl
  simp only [binE, itL, nI]
  rw [if_pos ⟨by omega, by omega, by
    show 1 * ((m : Int)).toNat ≤ SZ
    omega⟩]
  unfold rep
  rw [Int.toNat_natCast, List.flatten_replicate_singleton]
def Tle (n : Nat) (ds : List Cmd) : Prop := ∀ c ∈ ds, ∀ t, c.to = some t → t ≤ n
theorem Tle.mono {m n : Nat} {ds : List Cmd} (h : Tle m ds) (hm : m ≤ n) : Tle n ds := fun c hc t ht => Nat.le_trans (h c hc t ht) hm
theorem Tle.app {n : Nat} {a b : List Cmd} (h : Tle n a) (h2 : Tle n b) : Tle n (a ++ b) := fun c hc => (List.mem_append.mp hc).elim (h c) (h2 c)
theorem Tle.one {n : Nat} {c : Cmd} (h : ∀ t, c.to = some t → t ≤ n) : Tle n [c] := fun d hd => by
  have : d = c := by simpa using hd
  subst this
  exact h
theorem Tle.rep {n m : Nat} {c : Cmd} (h : ∀ t, c.to = some t → t ≤ n) : Tle n (List.replicate m c) := fun d hd => by
  have := List.eq_of_mem_replicate hd
  subst this
  exact h
structure Sh (S R : Sto) (j : Nat) (ds : List Cmd) : Prop where
  ys : YS S R
  at' : R[j]? = some (.lst (ds.map Cmd.pv))
  tl : Tle ds.length ds
theorem Sh.get {S R : Sto} {j : Nat} {ds : List Cmd} (h : Sh S R j ds) : S[j + 3]? = some (.lst (ds.map Cmd.pv)) := h.ys.get h.at'
section
variable {k : Nat}
def lpA : List CS := [CS.asg (Tg.var 5) (CE.call 17 [CE.var 0, CE.cst (PV.int (11)), CE.cst (PV.int (3))]),
          CS.asg (Tg.var 1)
            (CE.bin Bop.add
              (CE.bin Bop.add
                (CE.bin Bop.add
                  (CE.bin Bop.add (CE.var 1)
                    (CE.lst
                      [CE.tup
                          [CE.cst (PV.str [101, 105, 116, 104, 101, 114]),
                            CE.bin Bop.add (CE.bin Bop.add (CE.var 3) (CE.cst (PV.int (2)))) (CE.var 4)]]))
                  (CE.bin Bop.mul
                    (CE.lst
                      [CE.tup
                          [CE.cst (PV.str [112, 117, 116]), CE.cst (PV.int (0)),
                            CE.cst (PV.int (1))]])
                    (CE.var 4)))
                (CE.lst
                  [CE.tup
                      [CE.cst (PV.str [103, 111]),
                        CE.bin Bop.add
                          (CE.bin Bop.add (CE.bin Bop.add (CE.var 3) (CE.cst (PV.int (2)))) (CE.var 4))
                          (CE.var 5)]]))
              (CE.bin Bop.mul (CE.lst [CE.tup [CE.cst (PV.str [115, 116, 111, 112])]]) (CE.var 5)))]
def lpB : List CS := [CS.asg (Tg.var 1)
            (CE.bin Bop.add (CE.var 1)
              (CE.bin Bop.mul
                (CE.lst
                  [CE.tup
                      [CE.cst (PV.str [103, 111]),
                        CE.bin Bop.add
                          (CE.bin Bop.add (CE.bin Bop.add (CE.var 3) (CE.cst (PV.int (1)))) (CE.var 4))
                          (CE.cst (PV.int (1)))]])
                (CE.call 17 [CE.var 0, CE.cst (PV.int (12)), CE.cst (PV.int (2))]))),
          CS.asg (Tg.var 6) (CE.blt Blt.len [CE.var 1]),
          CS.asg (Tg.var 1)
            (CE.bin Bop.add
              (CE.bin Bop.add (CE.var 1)
                (CE.bin Bop.mul
                  (CE.lst
                    [CE.tup
                        [CE.cst (PV.str [119, 97, 105, 116]), CE.cst (PV.int (1)),
                          CE.cst (PV.int (1))]])
                  (CE.var 4)))
              (CE.lst [CE.tup [CE.cst (PV.str [103, 111]), CE.var 6]])),
          CS.ife (CE.cmp Cop.gt (CE.var 6) (CE.var 3))
            [CS.asgS (CE.var 1) (CE.var 3) (CE.tup [CE.cst (PV.str [103, 111]), CE.blt Blt.len [CE.var 1]])] []]
theorem ev_lst1 {F : FT} {G : Grd} {σ : Env} {S S1 : Sto} {e : CE} {v : PV} (h : evE gl kd F G e σ S = .ok (.val v) S1) : evE gl kd F G (.lst [e]) σ S = .ok (.tmp (.lst [v])) S1 := ev_lst (evL_val h evL_nil) (by show 1 ≤ SZ; decide)
theorem ev_tup2 {F : FT} {G : Grd} {σ : Env} {S S1 S2 : Sto} {a b : CE} {v w : PV} (h : evE gl kd F G a σ S = .ok (.val v) S1) (h2 : evE gl kd F G b σ S1 = .ok (.val w) S2) : evE gl kd F G (.tup [a, b]) σ S = .ok (.val (.tup [v, w])) S2 := ev_tup (evL_val h (evL_val h2 evL_nil)) (by show 2 ≤ SZ; decide)
theorem ev_tup3 {F : FT} {G : Grd} {σ : Env} {S S1 S2 S3 : Sto} {a b c : CE} {v w u : PV} (h : evE gl kd F G a σ S = .ok (.val v) S1) (h2 : evE gl kd F G b σ S1 = .ok (.val w) S2) (h3 : evE gl kd F G c σ S2 = .ok (.val u) S3) : evE gl kd F G (.tup [a, b, c]) σ S = .ok (.val (.tup [v, w, u])) S3 := ev_tup (evL_val h (evL_val h2 (evL_val h3 evL_nil))) (by show 3 ≤ SZ; decide)
theorem asg1_tmp {F : FT} {σ : Env} {S S1 R : Sto} {e : CE} {o : PO} (y : YS S1 R) (hσ : asgT (.var 1) (.ref (R.length + 3)) σ = some (σ.set 1 (some (.ref (R.length + 3))))) (h : evE gl kd F ⟨0, []⟩ e σ S = .ok (.tmp o) S1) :
    exS gl kd F ⟨0, []⟩ (CS.asg (Tg.var 1) e) σ S = .ok (.nx (σ.set 1 (some (.ref (R.length + 3))))) (S1 ++ [o]) := by
  refine exS_asg (x := .ref (R.length + 3)) ?_ hσ
  rw [← y.len]
  exact evP_tmp h
theorem sheetA {S R : Sto} {j : Nat} {ds : List Cmd} {x2 x5 x6 : Option PV} {long : Nat} (h : Sh S R j ds) (hd : ds.length ≤ 1000) (hl : long < 3) :
    ∃ S' R' j' ds' y5, exL gl kd (callF PP (k + 1)) ⟨0, []⟩ lpA [some (.ref 2), some (.ref (j + 3)), x2, some (nI ds.length), some (nI long), x5, x6] S = .ok (.nx [some (.ref 2), some (.ref (j' + 3)), x2, some (nI ds.length), some (nI long), y5, x6]) S' ∧
      Sh S' R' j' ds' ∧ ds'.length ≤ ds.length + 10 := by
  have hz : SZ = 16777216 := rfl
  obtain ⟨o, S1, e1, y1, ho, _⟩ := knot_ok (k := k) (pl := 11) (many := 3) h.ys (by decide) (by decide)
  have ho := ho (by decide)
  have h1 : S1[j + 3]? = some (.lst (ds.map Cmd.pv)) := y1.get h.at'
  let n := ds.length
  let a1 : List Cmd := ds ++ [.either (n + 2 + long)]
  let a2 : List Cmd := a1 ++ List.replicate long .put
  let a3 : List Cmd := a2 ++ [.go (n + 2 + long + o)]
  let a4 : List Cmd := a3 ++ List.replicate o .stop
  have l1 : a1.length = n + 1 := by simp [a1, n]
  have l2 : a2.length = n + 1 + long := by simp [a2, l1]
  have l3 : a3.length = n + 2 + long := by simp [a3, l2]; omega
  have l4 : a4.length = n + 2 + long + o := by simp [a4, l3]
  let σ1 : Env := [some (.ref 2), some (.ref (j + 3)), x2, some (nI n), some (nI long), some (nI o), x6]
  have s1 : exS gl kd (callF PP (k + 1)) ⟨0, []⟩ (CS.asg (Tg.var 5) (CE.call 17 [CE.var 0, CE.cst (PV.int (11)), CE.cst (PV.int (3))])) [some (.ref 2), some (.ref (j + 3)), x2, some (nI ds.length), some (nI long), x5, x6] S = .ok (.nx σ1) S1 :=
    exS_asg (evP_val (ev_knot (pl := 11) (many := 3) rfl ev_cst e1)) rfl
  have q : evE gl kd (callF PP (k + 1)) ⟨0, []⟩ (CE.bin Bop.add (CE.bin Bop.add (CE.var 3) (CE.cst (PV.int (2)))) (CE.var 4)) σ1 S1 = .ok (.val (nI (n + 2 + long))) S1 :=
    ev_bin (x := .val (nI (n + 2))) (y := .val (nI long)) (ev_bin (x := .val (nI n)) (y := .val (nI 2)) (ev_var rfl) ev_cst (add_nats _ _)) (ev_var rfl) (add_nats _ _)
  have ml : ∀ l : List Cmd, (l.map Cmd.pv).length = l.length := fun l => List.length_map ..
  have m1 : ds.map Cmd.pv ++ [(Cmd.either (n + 2 + long)).pv] = a1.map Cmd.pv := by simp [a1]
  have m2 : a1.map Cmd.pv ++ List.replicate long Cmd.put.pv = a2.map Cmd.pv := by simp [a2]
  have m3 : a2.map Cmd.pv ++ [(Cmd.go (n + 2 + long + o)).pv] = a3.map Cmd.pv := by simp [a3]
  have m4 : a3.map Cmd.pv ++ List.replicate o Cmd.stop.pv = a4.map Cmd.pv := by simp [a4]
  refine ⟨S1 ++ [.lst (a4.map Cmd.pv)], R ++ [.lst (a4.map Cmd.pv)], R.length, a4, some (nI o), ?_, ⟨y1.add, get_last, ?_⟩, by omega⟩
  · have e4 : evE gl kd (callF PP (k + 1)) ⟨0, []⟩ (CE.bin Bop.add
              (CE.bin Bop.add
                (CE.bin Bop.add
                  (CE.bin Bop.add (CE.var 1)
                    (CE.lst
                      [CE.tup
                          [CE.cst (PV.str [101, 105, 116, 104, 101, 114]),
                            CE.bin Bop.add (CE.bin Bop.add (CE.var 3) (CE.cst (PV.int (2)))) (CE.var 4)]]))
                  (CE.bin Bop.mul
                    (CE.lst
                      [CE.tup
                          [CE.cst (PV.str [112, 117, 116]), CE.cst (PV.int (0)),
                            CE.cst (PV.int (1))]])
                    (CE.var 4)))
                (CE.lst
                  [CE.tup
                      [CE.cst (PV.str [103, 111]),
                        CE.bin Bop.add
                          (CE.bin Bop.add (CE.bin Bop.add (CE.var 3) (CE.cst (PV.int (2)))) (CE.var 4))
                          (CE.var 5)]]))
              (CE.bin Bop.mul (CE.lst [CE.tup [CE.cst (PV.str [115, 116, 111, 112])]]) (CE.var 5))) σ1 S1 = .ok (.tmp (.lst (a4.map Cmd.pv))) S1 := by
      rw [← m4]
      refine ev_bin (ev_bin (ev_bin (ev_bin (ev_var rfl) (ev_lst1 (ev_tup2 ev_cst q)) ((add_ll h1 (by rw [ml]; show ds.length + 1 ≤ SZ; omega)).trans (congrArg (fun z => some (EV.tmp (PO.lst z))) m1)))
        (ev_bin (ev_lst1 (ev_tup3 ev_cst ev_cst ev_cst)) (ev_var rfl) (mul_one' (by omega))) ((add_tt (by rw [ml, List.length_replicate]; omega)).trans (congrArg (fun z => some (EV.tmp (PO.lst z))) m2)))
        (ev_lst1 (ev_tup2 ev_cst (ev_bin q (ev_var rfl) (add_nats _ _)))) ((add_tt (by rw [ml]; show a2.length + 1 ≤ SZ; omega)).trans (congrArg (fun z => some (EV.tmp (PO.lst z))) m3)))
        (ev_bin (ev_lst1 (ev_tup (evL_val ev_cst evL_nil) (by show 1 ≤ SZ; decide))) (ev_var rfl) (mul_one' (by omega))) (add_tt (by rw [ml, List.length_replicate]; omega))
    exact (exL_nx s1).trans ((exL_nx (asg1_tmp y1 rfl e4)).trans (by rw [exL]; rfl))
  · have t0 : Tle a4.length ds := h.tl.mono (by omega)
    refine (((t0.app (Tle.one fun t ht => ?_)).app (Tle.rep fun t ht => ?_)).app (Tle.one fun t ht => ?_)).app (Tle.rep fun t ht => ?_)
    · cases ht; omega
    · cases ht
    · cases ht; omega
    · cases ht
theorem gt_nats {S : Sto} (a b : Nat) : cmpE .gt (.val (nI a)) (.val (nI b)) S = some (decide (b < a)) := by
  show some (decide ((b : Int) < a)) = _
  congr 1
  exact decide_eq_decide.mpr (by omega)
theorem put_lst {S : Sto} {l n : Nat} {xs : List PV} {v : PV} (h : S[l]? = some (.lst xs)) (hn : n < xs.length) : putE ⟨0, []⟩ (.ref l) (nI n) v S = some (S.set l (.lst (xs.set n v))) := by
  have e : pyPos xs.length (n : Int) = some n := by
    unfold pyPos
    rw [if_pos (by omega), if_pos (by omega), Int.toNat_natCast]
  simp only [putE, h, nI, e]
  rfl
theorem Tle.set {n i : Nat} {ds : List Cmd} {c : Cmd} (h : Tle n ds) (h2 : ∀ t, c.to = some t → t ≤ n) : Tle n (ds.set i c) := fun d hd => by
  rcases List.mem_or_eq_of_mem_set hd with e | rfl
  · exact h d e
  · exact h2
theorem sheetB {S R : Sto} {j : Nat} {ds : List Cmd} {x2 x5 x6 : Option PV} {long : Nat} (h : Sh S R j ds) (hd : ds.length ≤ 1000) (hl : long < 3) :
    ∃ S' R' j' ds' y6, exL gl kd (callF PP (k + 1)) ⟨0, []⟩ lpB [some (.ref 2), some (.ref (j + 3)), x2, some (nI ds.length), some (nI long), x5, x6] S = .ok (.nx [some (.ref 2), some (.ref (j' + 3)), x2, some (nI ds.length), some (nI long), x5, y6]) S' ∧
      Sh S' R' j' ds' ∧ ds'.length ≤ ds.length + 10 := by
  have hz : SZ = 16777216 := rfl
  obtain ⟨o, S1, e1, y1, ho, _⟩ := knot_ok (k := k) (pl := 12) (many := 2) h.ys (by decide) (by decide)
  have ho := ho (by decide)
  have h1 : S1[j + 3]? = some (.lst (ds.map Cmd.pv)) := y1.get h.at'
  let n := ds.length
  let b1 : List Cmd := ds ++ List.replicate o (.go (n + 1 + long + 1))
  let b1' : List Cmd := b1 ++ List.replicate long .wait1
  let b2 : List Cmd := b1' ++ [.go (n + o)]
  have l1 : b1.length = n + o := by simp [b1, n]
  have l1' : b1'.length = n + o + long := by simp [b1', l1]
  have l2 : b2.length = n + o + long + 1 := by simp [b2, l1']
  have ml : ∀ l : List Cmd, (l.map Cmd.pv).length = l.length := fun l => List.length_map ..
  have m1 : ds.map Cmd.pv ++ List.replicate o (Cmd.go (n + 1 + long + 1)).pv = b1.map Cmd.pv := by simp [b1]
  have m1' : b1.map Cmd.pv ++ List.replicate long Cmd.wait1.pv = b1'.map Cmd.pv := by simp [b1']
  have m2 : b1'.map Cmd.pv ++ [(Cmd.go (n + o)).pv] = b2.map Cmd.pv := by simp [b2]
  let R1 : Sto := R ++ [.lst (b1.map Cmd.pv)]
  let R2 : Sto := R1 ++ [.lst (b2.map Cmd.pv)]
  let σ0 : Env := [some (.ref 2), some (.ref (j + 3)), x2, some (nI n), some (nI long), x5, x6]
  let σ1 : Env := [some (.ref 2), some (.ref (R.length + 3)), x2, some (nI n), some (nI long), x5, x6]
  let σ2 : Env := [some (.ref 2), some (.ref (R.length + 3)), x2, some (nI n), some (nI long), x5, some (nI (n + o))]
  let σ3 : Env := [some (.ref 2), some (.ref (R1.length + 3)), x2, some (nI n), some (nI long), x5, some (nI (n + o))]
  have y2 : YS (S1 ++ [.lst (b1.map Cmd.pv)]) R1 := y1.add
  have y3 : YS (S1 ++ [.lst (b1.map Cmd.pv)] ++ [.lst (b2.map Cmd.pv)]) R2 := y2.add
  have g1 : (S1 ++ [PO.lst (b1.map Cmd.pv)])[R.length + 3]? = some (.lst (b1.map Cmd.pv)) := y2.get get_last
  have g2 : (S1 ++ [PO.lst (b1.map Cmd.pv)] ++ [.lst (b2.map Cmd.pv)])[R1.length + 3]? = some (.lst (b2.map Cmd.pv)) := y3.get get_last
  have s1 : exS gl kd (callF PP (k + 1)) ⟨0, []⟩ (lpB.getD 0 .bad) σ0 S = .ok (.nx σ1) (S1 ++ [.lst (b1.map Cmd.pv)]) := by
    refine asg1_tmp y1 rfl ?_
    refine ev_bin (ev_var rfl) (ev_bin (ev_lst1 (ev_tup2 ev_cst (ev_bin (x := .val (nI (n + 1 + long))) (y := .val (nI 1)) (ev_bin (x := .val (nI (n + 1))) (y := .val (nI long)) (ev_bin (x := .val (nI n)) (y := .val (nI 1)) (ev_var rfl) ev_cst (add_nats _ _)) (ev_var rfl) (add_nats _ _)) ev_cst (add_nats _ _)))) (ev_knot (pl := 12) (many := 2) rfl ev_cst e1) (mul_one' (by omega))) ?_
    exact (add_ll h1 (by rw [ml, List.length_replicate]; omega)).trans (congrArg (fun z => some (EV.tmp (PO.lst z))) m1)
  have s2 : exS gl kd (callF PP (k + 1)) ⟨0, []⟩ (lpB.getD 1 .bad) σ1 (S1 ++ [.lst (b1.map Cmd.pv)]) = .ok (.nx σ2) (S1 ++ [.lst (b1.map Cmd.pv)]) :=
    exS_asg (evP_val (ev_blt1 (ev_var rfl) ((len_lst g1).trans (by rw [ml, l1])))) rfl
  have s3 : exS gl kd (callF PP (k + 1)) ⟨0, []⟩ (lpB.getD 2 .bad) σ2 (S1 ++ [.lst (b1.map Cmd.pv)]) = .ok (.nx σ3) (S1 ++ [.lst (b1.map Cmd.pv)] ++ [.lst (b2.map Cmd.pv)]) := by
    refine asg1_tmp y2 rfl ?_
    exact ev_bin (ev_bin (ev_var rfl) (ev_bin (ev_lst1 (ev_tup3 ev_cst ev_cst ev_cst)) (ev_var rfl) (mul_one' (by omega))) ((add_ll g1 (by rw [ml, List.length_replicate]; omega)).trans (congrArg (fun z => some (EV.tmp (PO.lst z))) m1')))
      (ev_lst1 (ev_tup2 ev_cst (ev_var rfl))) ((add_tt (by rw [ml]; show b1'.length + 1 ≤ SZ; omega)).trans (congrArg (fun z => some (EV.tmp (PO.lst z))) m2))
  have q : tst gl kd (callF PP (k + 1)) ⟨0, []⟩ (CE.cmp Cop.gt (CE.var 6) (CE.var 3)) σ3 (S1 ++ [.lst (b1.map Cmd.pv)] ++ [.lst (b2.map Cmd.pv)]) = .ok (decide (n < n + o)) (S1 ++ [.lst (b1.map Cmd.pv)] ++ [.lst (b2.map Cmd.pv)]) :=
    tst_of (ev_cmp (ev_var rfl) (ev_var rfl) (gt_nats _ _)) rfl
  have t2 : ∀ m, b2.length ≤ m → (o = 1 ∨ o = 0) → Tle m b2 := by
    intro m hm h01
    refine ((Tle.app (h.tl.mono (by omega)) ?_).app (Tle.rep fun t ht => by cases ht)).app (Tle.one fun t ht => by cases ht; omega)
    rcases h01 with rfl | rfl
    · exact Tle.rep fun t ht => by cases ht; omega
    · intro c hc; cases hc
  rcases (by omega : o = 1 ∨ o = 0) with h01 | h01
  · have q1 : decide (n < n + o) = true := decide_eq_true (by omega)
    rw [q1] at q
    have m3 : (b2.map Cmd.pv).set n (Cmd.go b2.length).pv = (b2.set n (.go b2.length)).map Cmd.pv := by rw [List.map_set]
    let b3 : List Cmd := b2.set n (.go b2.length)
    let S4 : Sto := List.set (S1 ++ [PO.lst (b1.map Cmd.pv)] ++ [PO.lst (b2.map Cmd.pv)]) (R1.length + 3) (PO.lst (b3.map Cmd.pv))
    have l3 : b3.length = b2.length := List.length_set ..
    have s4 : exS gl kd (callF PP (k + 1)) ⟨0, []⟩ (lpB.getD 3 .bad) σ3 (S1 ++ [.lst (b1.map Cmd.pv)] ++ [.lst (b2.map Cmd.pv)]) = .ok (.nx σ3) S4 := by
      refine exS_yes q ((exL_nx (S1 := S4) (exS_asgS (S3 := S1 ++ [.lst (b1.map Cmd.pv)] ++ [.lst (b2.map Cmd.pv)]) (v := (Cmd.go b2.length).pv) (x := .ref (R1.length + 3)) (y := nI n) (evP_val (ev_tup2 ev_cst (ev_blt1 (ev_var rfl) ((len_lst g2).trans (by rw [ml]))))) (evP_val (ev_var rfl)) (evP_val (ev_var rfl)) ?_)).trans (by rw [exL]))
      show _ = some ((S1 ++ [PO.lst (b1.map Cmd.pv)] ++ [PO.lst (b2.map Cmd.pv)]).set (R1.length + 3) (.lst ((b2.set n (.go b2.length)).map Cmd.pv)))
      rw [← m3]
      exact put_lst g2 (by rw [ml]; omega)
    have y4 : YS S4 ((R1 ++ [PO.lst (b2.map Cmd.pv)]).set R1.length (.lst (b3.map Cmd.pv))) := y3.set (l := R1.length) (o := .lst (b3.map Cmd.pv))
    rw [set_last] at y4
    refine ⟨S4, R1 ++ [.lst (b3.map Cmd.pv)], R1.length, b3, some (nI (n + o)), (exL_nx s1).trans ((exL_nx s2).trans ((exL_nx s3).trans ((exL_nx s4).trans (by rw [exL])))), ⟨y4, get_last, ?_⟩, by omega⟩
    refine Tle.set (t2 _ (by omega) (.inl h01)) fun t ht => ?_
    cases ht
    omega
  · have q1 : decide (n < n + o) = false := decide_eq_false (by omega)
    rw [q1] at q
    refine ⟨_, R2, R1.length, b2, some (nI (n + o)), (exL_nx s1).trans ((exL_nx s2).trans ((exL_nx s3).trans ((exL_nx (exS_no q)).trans (by rw [exL])))), ⟨y3, get_last, t2 _ (Nat.le_refl _) (.inr h01)⟩, by omega⟩
def lp26 : List CS := [CS.asg (Tg.tup [Tg.var 3, Tg.var 4])
        (CE.tup
          [CE.blt Blt.len [CE.var 1],
            CE.call 17 [CE.var 0, CE.cst (PV.int (9)), CE.cst (PV.int (3))]]),
      CS.ife
        (CE.cmp Cop.eq (CE.call 17 [CE.var 0, CE.cst (PV.int (10)), CE.cst (PV.int (2))])
          (CE.cst (PV.int (0)))) lpA lpB]
theorem loop26 : ∀ (m i : Nat) (S R : Sto) (j : Nat) (ds : List Cmd) (x2 x3 x4 x5 x6 : Option PV), i + m ≤ 4 → ds.length ≤ 10 * i → Sh S R j ds →
    ∃ S' R' j' ds' y2 y3 y4 y5 y6, forF ⟨0, []⟩ (.var 2) (fun σ S => exL gl kd (callF PP (k + 1)) ⟨0, []⟩ lp26 σ S) ((List.range' i m).map nI) [some (.ref 2), some (.ref (j + 3)), x2, x3, x4, x5, x6] S = .ok (.nx [some (.ref 2), some (.ref (j' + 3)), y2, y3, y4, y5, y6]) S' ∧
      Sh S' R' j' ds' ∧ ds'.length ≤ 40
  | 0, i, S, R, j, ds, x2, x3, x4, x5, x6, h, hl, y => ⟨S, R, j, ds, x2, x3, x4, x5, x6, rfl, y, by omega⟩
  | m + 1, i, S, R, j, ds, x2, x3, x4, x5, x6, h, hl, y => by
    obtain ⟨lg, S1, e1, y1, hlg, _⟩ := knot_ok (k := k) (pl := 9) (many := 3) y.ys (by decide) (by decide)
    have hlg := hlg (by decide)
    obtain ⟨w, S2, e2, y2, _, _⟩ := knot_ok (k := k) (pl := 10) (many := 2) y1 (by decide) (by decide)
    have sh : Sh S2 R j ds := ⟨y2, y.at', y.tl⟩
    let σ1 : Env := [some (.ref 2), some (.ref (j + 3)), some (nI i), x3, x4, x5, x6]
    let σ2 : Env := [some (.ref 2), some (.ref (j + 3)), some (nI i), some (nI ds.length), some (nI lg), x5, x6]
    have s1 : exS gl kd (callF PP (k + 1)) ⟨0, []⟩ (lp26.getD 0 .bad) σ1 S = .ok (.nx σ2) S1 :=
      exS_asg (x := .tup [nI ds.length, nI lg]) (evP_val (ev_tup2 (ev_blt1 (ev_var rfl) ((len_lst y.get).trans (by rw [List.length_map]))) (ev_knot (pl := 9) (many := 3) rfl ev_cst e1))) rfl
    have q : tst gl kd (callF PP (k + 1)) ⟨0, []⟩ (CE.cmp Cop.eq (CE.call 17 [CE.var 0, CE.cst (PV.int (10)), CE.cst (PV.int (2))]) (CE.cst (PV.int (0)))) σ2 S1 = .ok (decide (w = 0)) S2 :=
      tst_of (ev_cmp (x := .val (nI w)) (y := .val (nI 0)) (ev_knot (pl := 10) (many := 2) rfl ev_cst e2) ev_cst (eq_nats (S := S2) w 0)) rfl
    have go : ∀ (S3 R3 : Sto) (j3 : Nat) (d3 : List Cmd) (z5 z6 : Option PV), Sh S3 R3 j3 d3 → d3.length ≤ ds.length + 10 → exS gl kd (callF PP (k + 1)) ⟨0, []⟩ (lp26.getD 1 .bad) σ2 S1 = .ok (.nx [some (.ref 2), some (.ref (j3 + 3)), some (nI i), some (nI ds.length), some (nI lg), z5, z6]) S3 →
        ∃ S' R' j' ds' y2 y3 y4 y5 y6, forF ⟨0, []⟩ (.var 2) (fun σ S => exL gl kd (callF PP (k + 1)) ⟨0, []⟩ lp26 σ S) ((List.range' i (m + 1)).map nI) [some (.ref 2), some (.ref (j + 3)), x2, x3, x4, x5, x6] S = .ok (.nx [some (.ref 2), some (.ref (j' + 3)), y2, y3, y4, y5, y6]) S' ∧
          Sh S' R' j' ds' ∧ ds'.length ≤ 40 := by
      intro S3 R3 j3 d3 z5 z6 h3 hl3 e
      obtain ⟨S', R', j', ds', a, b, c, d, f, e', r⟩ := loop26 m (i + 1) S3 R3 j3 d3 (some (nI i)) (some (nI ds.length)) (some (nI lg)) z5 z6 (by omega) (by omega) h3
      refine ⟨S', R', j', ds', a, b, c, d, f, ?_, r⟩
      rw [List.range'_succ, List.map_cons]
      exact (forF_nx (σ1 := σ1) rfl ((exL_nx s1).trans ((exL_nx e).trans (by rw [exL])))).trans e'
    by_cases h0 : w = 0
    · rw [decide_eq_true h0] at q
      obtain ⟨S3, R3, j3, d3, z, e3, h3, hl3⟩ := sheetA (k := k) (x2 := some (nI i)) (x5 := x5) (x6 := x6) sh (by omega) hlg
      exact go S3 R3 j3 d3 z x6 h3 hl3 (exS_yes q e3)
    · rw [decide_eq_false h0] at q
      obtain ⟨S3, R3, j3, d3, z, e3, h3, hl3⟩ := sheetB (k := k) (x2 := some (nI i)) (x5 := x5) (x6 := x6) sh (by omega) hlg
      exact go S3 R3 j3 d3 x5 z h3 hl3 ((exS_ife (k := false) q).trans (by rw [if_neg (by decide), e3]))
theorem sheet_ok {S R : Sto} (h : YS S R) : ∃ cs S' R', callF PP (k + 2) ⟨0, []⟩ 26 [.ref 2] S = .ok (.val (code cs)) S' ∧ YS S' R' ∧ cs.length ≤ 41 ∧ OkC cs := by
  have hz : SZ = 16777216 := rfl
  have y0 : YS (S ++ [.lst []]) (R ++ [.lst []]) := h.add
  obtain ⟨w, S1, e1, y1, hw, _⟩ := knot_ok (k := k) (pl := 8) (many := 4) y0 (by decide) (by decide)
  have hw := hw (by decide)
  have sh : Sh S1 (R ++ [.lst []]) R.length [] := ⟨y1, get_last, by intro c hc; cases hc⟩
  obtain ⟨S2, R2, j2, ds, a, b, c, d, f, e2, h2, hl2⟩ := loop26 (k := k) (1 + w) 0 S1 _ R.length [] none none none none none (by omega) (by simp) sh
  refine ⟨ds ++ [Cmd.stop], S2, R2, call_raw (d := e26) rfl rfl rfl ?_, h2.ys, by rw [List.length_append]; show ds.length + 1 ≤ 41; omega, okC_of ?_ rfl⟩
  · refine (exL_nx (σ1 := [some (.ref 2), some (.ref (R.length + 3)), none, none, none, none, none]) (S1 := S ++ [.lst []]) (exS_asg (evP_tmp (ev_lst evL_nil (by show 0 ≤ SZ; decide))) (by rw [h.len]; rfl))).trans ?_
    refine (exL_nx (σ1 := [some (.ref 2), some (.ref (j2 + 3)), a, b, c, d, f]) (S1 := S2) ((exS_frr (evI_rng1 (j := Int.ofNat (1 + w)) (ev_bin (x := .val (nI 1)) (y := .val (nI w)) ev_cst (ev_knot (pl := 8) (many := 4) rfl ev_cst e1) (add_nats _ _)) (rngW_nat (by omega)))).trans e2)).trans (exL_rt (exS_ret ?_))
    refine ev_tup2 (v := .tup [.int 2]) (w := cds (ds ++ [Cmd.stop])) (ev_tup (evL_val ev_cst evL_nil) (by show 1 ≤ SZ; decide)) ?_
    refine ev_bin (x := .val (.tup (ds.map Cmd.pv))) (y := .val (.tup [Cmd.stop.pv])) (ev_blt1 (ev_var rfl) (tuple_lst h2.get)) (ev_tup (evL_val (ev_tup (evL_val ev_cst evL_nil) (by show 1 ≤ SZ; decide)) evL_nil) (by show 1 ≤ SZ; decide)) ?_
    rw [bin_tups _ _ (by rw [List.length_map]; show ds.length + 1 ≤ SZ; omega)]
    show _ = some (EV.val (.tup ((ds ++ [Cmd.stop]).map Cmd.pv)))
    rw [List.map_append]
    rfl
  · have hlen : (ds ++ [Cmd.stop]).length = ds.length + 1 := List.length_append ..
    rw [hlen]
    refine Tos.add (fun e he t ht => ?_) fun t ht => by cases ht
    have := h2.tl e he t ht
    omega
end
end K06
end partK06f

section partK06g
set_option linter.all false
set_option maxRecDepth 100000
/-! K06g: _law_asked. -/
namespace K06
open Mp
theorem okV_nats (n : Nat) {l : List Nat} (h : l.length ≤ SZ) : okV (n + 2) (.tup (l.map nI)) = true := by
  refine Bool.and_eq_true_iff.mpr ⟨List.all_eq_true.mpr fun x hx => ?_, decide_eq_true (by rw [List.length_map]; exact h)⟩
  obtain ⟨i, _, rfl⟩ := List.mem_map.mp hx
  rfl
theorem okV_cmd (n : Nat) (c : Cmd) : okV (n + 2) c.pv = true := by cases c <;> rfl
theorem okV_code (n : Nat) {cs : List Cmd} (h : cs.length ≤ SZ) : okV (n + 4) (code cs) = true := by
  have h1 : okV (n + 3) (cds cs) = true := by
    refine Bool.and_eq_true_iff.mpr ⟨List.all_eq_true.mpr fun x hx => ?_, decide_eq_true (by rw [List.length_map]; exact h)⟩
    obtain ⟨c, _, rfl⟩ := List.mem_map.mp hx
    exact okV_cmd n c
  show ((okV (n + 3) (.tup [.int 2]) && (okV (n + 3) (cds cs) && true)) && decide (2 ≤ SZ)) = true
  rw [h1]
  rfl
section
variable {k : Nat} {cs : List Cmd} {R : Sto}
def lp25 : List CS := [CS.ife
        (CE.call 24 [CE.callK 2 [] [CE.var 4, CE.var 1] [1, 0], CE.blt Blt.tuple [CE.call 20 [CE.var 3, CE.var 4]]]).not
        [CS.ret (CE.cst (PV.bl false))] []]
theorem nxt_le2 (a : Nat) (c : Cmd) : (nxt a c).length ≤ 2 := by
  unfold nxt
  repeat' split
  all_goals simp
theorem loop25 {S : Sto} {v2 : PV} : ∀ (as : List Nat) (x4 : Option PV), (∀ a ∈ as, a < cs.length) →
    ∃ y4, forF ⟨0, []⟩ (.var 4) (fun σ S => exL gl kd (callF PP (k + 10)) ⟨0, []⟩ lp25 σ S) (as.map nI) [some (.ref 2), some (code cs), some v2, some (cds cs), x4, none, none, none, none] S = .ok (.nx [some (.ref 2), some (code cs), some v2, some (cds cs), y4, none, none, none, none]) S
  | [], x4, _ => ⟨x4, rfl⟩
  | a :: as, x4, h => by
    obtain ⟨y4, e⟩ := loop25 as (some (nI a)) fun b hb => h b (List.mem_cons_of_mem _ hb)
    have hlt := h a List.mem_cons_self
    have hc : cs[a]? = some (cs[a]'hlt) := List.getElem?_eq_getElem _
    generalize cs[a]'hlt = c at hc
    refine ⟨y4, ?_⟩
    let σ1 : Env := [some (.ref 2), some (code cs), some v2, some (cds cs), some (nI a), none, none, none, none]
    have hk : okV 2 (.tup ((nxt a c).map nI)) = true := okV_nats 0 (Nat.le_trans (nxt_le2 a c) (by decide))
    have q : evE gl kd (callF PP (k + 10)) ⟨0, []⟩ (CE.call 24 [CE.callK 2 [] [CE.var 4, CE.var 1] [1, 0], CE.blt Blt.tuple [CE.call 20 [CE.var 3, CE.var 4]]]).not σ1 S = .ok (.val (.bl false)) S := by
      refine ev_not (x := .val (.bl true)) ((ev_call (evL_val (z := .tup ((nxt a c).map nI)) ?_ (evL_val (z := .tup ((nxt a c).map nI)) (ev_blt1 (x := .tmp (.lst ((nxt a c).map nI))) ((ev_call (evL_val (ev_var rfl) (evL_val (ev_var rfl) evL_nil))).trans (lnext_ok (k := k + 9) hc)) rfl) evL_nil))).trans (same_ok (k := k + 8) 2 _ hk _ _)) rfl
      exact (ev_callK evL_nil (evL_val (ev_var rfl) (evL_val (ev_var rfl) evL_nil))).trans (next_ok (k := k + 8) hc)
    exact (forF_nx (σ1 := σ1) rfl ((exL_nx (exS_no (tst_of q rfl))).trans (by rw [exL]))).trans e
theorem dead_full (ok : OkC cs) (f : Full cs) : dead cs (List.range cs.length) = [] := by
  unfold dead
  rw [List.filter_eq_nil_iff]
  intro a ha
  have : a < cs.length := by
    have := List.mem_range'.mp ha
    obtain ⟨i, hi, rfl⟩ := this
    omega
  simp [this]
theorem ev_rngS {F : FT} {G : Grd} {σ : Env} {S S1 : Sto} {a e : CE} {b : Bool} {i j : Int} {w : Wk} (h0 : evE gl kd F G a σ S = .ok (.val (.int i)) S) (h : evE gl kd F G e σ S = .ok (.val (.int j)) S1) (r : rngW i j = some w) : evE gl kd F G (.rngS b a e) σ S = .ok (if b then .val (.tup w.items) else .tmp (.lst w.items)) S1 := by
  rw [evE, h0, R.bind_ok, h, R.bind_ok]
  dsimp only
  rw [r]
theorem kept_ex (ok : OkC cs) : ∃ K, Kept cs K := by
  classical
  refine ⟨(List.range cs.length).filter fun a => decide (Reach cs a), ⟨List.Pairwise.filter _ List.pairwise_lt_range, fun x => ?_⟩⟩
  rw [List.mem_filter, List.mem_range, decide_eq_true_eq]
  exact ⟨fun h => h.2, fun h => ⟨ok.reach h, h⟩⟩
theorem shorten_le : ∀ (n : Nat) (ds : List Cmd), (shorten n ds).length ≤ ds.length
  | 0, ds => Nat.le_refl _
  | n + 1, ds => by
    unfold shorten
    split
    · exact Nat.le_refl _
    · rename_i i hi
      exact Nat.le_trans (shorten_le n (rem ds i)) (by rw [rem_len (List.getElem?_eq_some_iff.mp (idle_some hi)).1]; omega)
theorem short_le {K : List Nat} (ok : OkC cs) (kp : Kept cs K) : (short cs K).length ≤ cs.length := by
  have hK := nodup_len (kp.sorted.imp (fun h => Nat.ne_of_lt h)) (kp.lt ok)
  refine Nat.le_trans (shorten_le _ _) ?_
  rw [led1_len ok kp]
  exact hK
/-- behind the loop -/
theorem asked_rest {S : Sto} {b : Bool} {x4 : Option PV} (ok : OkC cs) (hlen : cs.length ≤ 1000) (y : YS S R) : ∃ S' R', exL gl kd (callF PP (k + 10)) ⟨0, []⟩ (b25.drop 2) [some (.ref 2), some (code cs), some (.bl b), some (cds cs), x4, none, none, none, none] S = .ok (.rt (.val (.bl true))) S' ∧ YS S' R' := by
  have hz : SZ = 16777216 := rfl
  obtain ⟨K, kp⟩ : ∃ K, Kept cs K := kept_ex ok
  have hK := nodup_len (kp.sorted.imp (fun h => Nat.ne_of_lt h)) (kp.lt ok)
  obtain ⟨ok2, f2, _⟩ := short_ok ok kp
  have kp2 := f2.kept ok2
  have ss := short_short ok kp
  have hl2 : (short cs K).length ≤ 1000 := Nat.le_trans (short_le ok kp) hlen
  let σ0 : Env := [some (.ref 2), some (code cs), some (.bl b), some (cds cs), x4, none, none, none, none]
  let L := R.length + 3
  let S1 : Sto := S ++ [.lst (K.map nI)]
  let D : List Nat := dead cs K
  have hD : D.length ≤ SZ := Nat.le_trans (List.length_filter_le _ _) (by rw [List.length_range']; omega)
  let σ1 : Env := [some (.ref 2), some (code cs), some (.bl b), some (cds cs), x4, some (.ref L), some (code (short cs K)), none, none]
  let σ2 : Env := [some (.ref 2), some (code cs), some (.bl b), some (cds cs), x4, some (.ref L), some (code (short cs K)), some (.tup (D.map nI)), none]
  have y1 : YS S1 (R ++ [.lst (K.map nI)]) := y.add
  have g1 : S1[L]? = some (.lst (K.map nI)) := y1.get get_last
  have s1 : exS gl kd (callF PP (k + 10)) ⟨0, []⟩ (b25.getD 2 .bad) σ0 S = .ok (.nx σ1) S1 := by
    refine exS_asg (x := .tup [.ref S.length, code (short cs K)]) (evP_val (ev_tup (evL_tmp (o := .lst (K.map nI)) ((ev_call (evL_val (ev_var rfl) evL_nil)).trans (lreached_ok (k := k + 8) ok hlen kp)) (evL_val ((ev_call (evL_val (ev_var rfl) evL_nil)).trans (lshort_prog (k := k + 7) ok hlen kp)) evL_nil)) (by show 2 ≤ SZ; decide))) ?_
    rw [y.len]
    rfl
  have s2 : exS gl kd (callF PP (k + 10)) ⟨0, []⟩ (b25.getD 3 .bad) σ1 S1 = .ok (.nx σ2) S1 := by
    refine exS_asg (evP_val (ev_blt1 (x := .tmp (.lst (D.map nI))) ?_ rfl)) rfl
    have e := ev_lcG (gl := gl) (kd := kd) (F := callF PP (k + 10)) (G := ⟨0, []⟩) (σ := σ1) (S := S1) (S1 := S1) (e := CE.var 4) (t := Tg.var 4) (it := CI.rng1 (CE.blt Blt.len [CE.var 3])) (ifs := [CE.cmp Cop.nin (CE.var 4) (CE.var 5)]) (own := [4])
      (xs := List.range' 0 cs.length) (h := nI) (g := fun a => if (!decide (a ∈ K)) = true then some (nI a) else none) (fr := []) (evI_rng1 (j := Int.ofNat cs.length) (len_cds rfl) (rngW_nat (by omega))) (fun a _ => ?_) (by rw [List.length_range']; omega)
    · rw [filterMap_if] at e
      exact e
    · refine lcB_if (σ1 := [some (.ref 2), some (code cs), some (.bl b), some (cds cs), some (nI a), some (.ref L), some (code (short cs K)), none, none]) rfl (ev_cmp (x := .val (nI a)) (y := .val (.ref L)) (ev_var rfl) (ev_var rfl) ?_) fun _ => ev_var rfl
      show (inE (.val (nI a)) (.val (.ref L)) S1).map not = _
      rw [in_nats (l := K) (by simp only [itT, itL, g1]) (by intro s z; cases z)]
      rfl
  have v1 : okV 5 (.tup [.tup (K.map nI), .tup (D.map nI), code (short cs K)]) = true := by
    refine Bool.and_eq_true_iff.mpr ⟨?_, rfl⟩
    show (okV 4 (.tup (K.map nI)) && (okV 4 (.tup (D.map nI)) && (okV 4 (code (short cs K)) && true))) = true
    rw [okV_nats 2 (by omega), okV_nats 2 hD, okV_code 0 (by omega)]
    rfl
  have q3 : evE gl kd (callF PP (k + 10)) ⟨0, []⟩ (CE.call 24
        [CE.tup [CE.call 3 [CE.var 1], CE.call 4 [CE.var 1], CE.call 7 [CE.var 1]],
          CE.tup [CE.blt Blt.tuple [CE.var 5], CE.var 7, CE.var 6]]).not σ2 S1 = .ok (.val (.bl false)) S1 :=
    ev_not (x := .val (.bl true)) ((ev_call (evL_val (ev_tup3 ((ev_call (evL_val (ev_var rfl) evL_nil)).trans (reached_ok (k := k + 7) ok hlen kp)) ((ev_call (evL_val (ev_var rfl) evL_nil)).trans (dead_ok (k := k + 6) ok hlen kp)) ((ev_call (evL_val (ev_var rfl) evL_nil)).trans (short_prog (k := k + 6) ok hlen kp)))
      (evL_val (ev_tup3 (ev_blt1 (ev_var rfl) (tuple_lst g1)) (ev_var rfl) (ev_var rfl)) evL_nil))).trans (same_ok (k := k + 5) 5 _ v1 _ _)) rfl
  let sh : List Cmd := short cs K
  let v8 : PV := .tup [nI sh.length, code sh, .tup [], .tup ((List.range' 0 sh.length).map nI)]
  let σ3 : Env := [some (.ref 2), some (code cs), some (.bl b), some (cds cs), x4, some (.ref L), some (code sh), some (.tup (D.map nI)), some v8]
  have c7 : callF PP (k + 10) ⟨0, []⟩ 7 [code sh] S1 = .ok (.val (code sh)) S1 := by
    have := short_prog (k := k + 6) (G := ⟨0, []⟩) (S := S1) ok2 hl2 kp2
    rw [ss] at this
    exact this
  have c4 : callF PP (k + 10) ⟨0, []⟩ 4 [code sh] S1 = .ok (.val (.tup [])) S1 := by
    have := dead_ok (k := k + 6) (G := ⟨0, []⟩) (S := S1) ok2 hl2 kp2
    rw [dead_full ok2 f2] at this
    exact this
  have c3 : callF PP (k + 10) ⟨0, []⟩ 3 [code sh] S1 = .ok (.val (.tup ((List.range' 0 sh.length).map nI))) S1 := by
    have := reached_ok (k := k + 7) (G := ⟨0, []⟩) (S := S1) ok2 hl2 kp2
    rw [List.range_eq_range'] at this
    exact this
  have s4 : exS gl kd (callF PP (k + 10)) ⟨0, []⟩ (b25.getD 5 .bad) σ2 S1 = .ok (.nx σ3) S1 :=
    exS_asg (evP_val (ev_tup (evL_val ((ev_call (evL_val (z := cnts) (ev_tup2 ev_cst ev_cst) (evL_val (ev_var rfl) evL_nil))).trans (check_ok (k := k + 5) ok2 hl2)) (evL_val ((ev_callK evL_nil (evL_val (ev_var rfl) evL_nil)).trans c7) (evL_val ((ev_call (evL_val (ev_var rfl) evL_nil)).trans c4) (evL_val ((ev_call (evL_val (ev_var rfl) evL_nil)).trans c3) evL_nil)))) (by show 4 ≤ SZ; decide))) rfl
  have v2 : okV 5 v8 = true := by
    refine Bool.and_eq_true_iff.mpr ⟨?_, rfl⟩
    show (true && (okV 4 (code sh) && (true && (okV 4 (.tup ((List.range' 0 sh.length).map nI)) && true)))) = true
    rw [okV_nats 2 (by rw [List.length_range']; show (short cs K).length ≤ SZ; omega), okV_code 0 (by show (short cs K).length ≤ SZ; omega)]
    rfl
  refine ⟨S1, _, (exL_nx s1).trans ((exL_nx s2).trans ((exL_nx (exS_no (tst_of q3 rfl))).trans ((exL_nx s4).trans (exL_rt (exS_ret ((ev_call (evL_val (z := v8) (ev_var rfl) (evL_val (z := v8) ?_ evL_nil))).trans (same_ok (k := k + 5) 5 _ v2 _ _))))))), y1⟩
  have hn : sh.length ≤ SZ := by show (short cs K).length ≤ SZ; omega
  refine ev_tup (evL_val (len_code rfl) (evL_val (ev_var rfl) (evL_val (ev_tup evL_nil (by show 0 ≤ SZ; decide)) (evL_val (ev_rngS (b := true) (i := 0) (j := Int.ofNat sh.length) ev_cst (len_code rfl) (rngW_nat hn)) evL_nil)))) (by show 4 ≤ SZ; decide)
theorem asked_ok {S : Sto} (ok : OkC cs) (hlen : cs.length ≤ 1000) (y : YS S R) (b : Bool) : ∃ S' R', callF PP (k + 11) ⟨0, []⟩ 25 [.ref 2, code cs, .bl b] S = .ok (.val (.bl true)) S' ∧ YS S' R' := by
  have hz : SZ = 16777216 := rfl
  have hp := ok.pos
  let σ0 : Env := [some (.ref 2), some (code cs), some (.bl b), some (cds cs), none, none, none, none, none]
  have s0 : exS gl kd (callF PP (k + 10)) ⟨0, []⟩ (b25.getD 0 .bad) (startE 9 [.ref 2, code cs, .bl b]) S = .ok (.nx σ0) S := exS_asg (evP_val (ev_code1 rfl)) rfl
  have go : ∀ (as : List Nat) (S1 : Sto), YS S1 R → (∀ a ∈ as, a < cs.length) → evE gl kd (callF PP (k + 10)) ⟨0, []⟩ ((CE.var 2).ite (CE.rngS false (CE.cst (PV.int (0))) (CE.blt Blt.len [CE.var 3]))
        (CE.lst
          [CE.cst (PV.int (0)), CE.bin Bop.sub (CE.blt Blt.len [CE.var 3]) (CE.cst (PV.int (1))),
            CE.call 17 [CE.var 0, CE.cst (PV.int (7)), CE.blt Blt.len [CE.var 3]]])) σ0 S = .ok (.tmp (.lst (as.map nI))) S1 →
      ∃ S' R', callF PP (k + 11) ⟨0, []⟩ 25 [.ref 2, code cs, .bl b] S = .ok (.val (.bl true)) S' ∧ YS S' R' := by
    intro as S1 y1 has e
    obtain ⟨y4, e1⟩ := loop25 (k := k) (cs := cs) (S := S1) (v2 := .bl b) as none has
    obtain ⟨S', R', e2, y2⟩ := asked_rest (k := k) (b := b) (x4 := y4) ok hlen y1
    exact ⟨S', R', call_raw (d := e25) rfl rfl rfl ((exL_nx s0).trans ((exL_nx ((exS_frr (evI_exp e rfl)).trans e1)).trans e2)), y2⟩
  cases b with
  | true =>
    exact go (List.range' 0 cs.length) S y (fun a ha => by
      obtain ⟨i, hi, rfl⟩ := List.mem_range'.mp ha
      omega) ((ev_iteT (ev_var rfl) rfl).trans (ev_rngS (b := false) (i := 0) (j := Int.ofNat cs.length) ev_cst (len_cds rfl) (rngW_nat (by omega))))
  | false =>
    obtain ⟨r, S1, e1, y1, h1, h2⟩ := knot_ok (k := k + 9) (pl := 7) (many := cs.length) y (by decide) (by omega)
    have hr : r < cs.length := by
      by_cases h : 2 ≤ cs.length
      · exact h1 h
      · have := h2 (by omega); omega
    refine go [0, cs.length - 1, r] S1 y1 (fun a ha => ?_) ((ev_iteF (ev_var rfl) rfl).trans (ev_lst (evL_val ev_cst (evL_val (ev_bin (x := .val (nI cs.length)) (y := .val (nI 1)) (len_cds rfl) ev_cst (sub1_nats _ hp)) (evL_val (ev_knot (pl := 7) rfl (len_cds rfl) e1) evL_nil))) (by show 3 ≤ SZ; decide)))
    simp only [List.mem_cons, List.not_mem_nil, or_false] at ha
    omega
end
end K06
end partK06g

section partK06l
set_option linter.all false
set_option maxRecDepth 100000
/-! K06l: law. -/
namespace K06
open Mp
theorem hand_ok {G : Grd} {S : Sto} : callF PP 59 G 27 [] S = .ok (.val (.bl true)) S := by kernel_rfl
def lp28 : List CS := [CS.ife
        ((CE.call 25
                [CE.var 1,
                  CE.call 19
                    [CE.var 1,
                      (CE.tup
                            [CE.bin Bop.add (CE.cst (PV.int (1)))
                                (CE.call 17 [CE.var 1, CE.cst (PV.int (13)), CE.cst (PV.int (16))]),
                              CE.cst (PV.int (6)), CE.cst (PV.int (11))]).idx
                        (CE.var 2)],
                  CE.cst (PV.bl true)]).not.or
          (CE.call 25 [CE.var 1, CE.call 26 [CE.var 1], CE.cst (PV.bl true)]).not)
        [CS.ret (CE.cst (PV.bl false))] []]
theorem ev_knot1 {σ : Env} {S S' : Sto} {k pl many r : Nat} {c : CE} (h0 : σ[1]? = some (some (.ref 2))) (hc : evE gl kd (callF PP k) ⟨0, []⟩ c σ S = .ok (.val (nI many)) S) (h : callF PP k ⟨0, []⟩ 17 [.ref 2, nI pl, nI many] S = .ok (.val (nI r)) S') :
    evE gl kd (callF PP k) ⟨0, []⟩ (CE.call 17 [CE.var 1, CE.cst (PV.int pl), c]) σ S = .ok (.val (nI r)) S' :=
  (ev_call (evL_val (ev_var h0) (evL_val (z := nI pl) ev_cst (evL_val hc evL_nil)))).trans h
theorem turn28 {S R : Sto} {v0 : PV} {x3 x4 : Option PV} {i : Nat} (hi : i < 3) (y : YS S R) : ∃ S' R', exL gl kd (callF PP 59) ⟨0, []⟩ lp28 [some v0, some (.ref 2), some (nI i), x3, x4] S = .ok (.nx [some v0, some (.ref 2), some (nI i), x3, x4]) S' ∧ YS S' R' := by
  obtain ⟨r, S1, e1, y1, h1, _⟩ := knot_ok (k := 58) (pl := 13) (many := 16) y (by decide) (by decide)
  have h1 := h1 (by decide)
  have hx : ∃ m, [nI (1 + r), nI 6, nI 11][i]? = some (nI m) ∧ 0 < m ∧ m ≤ 16 := by
    rcases (by omega : i = 0 ∨ i = 1 ∨ i = 2) with rfl | rfl | rfl
    · exact ⟨1 + r, rfl, by omega, by omega⟩
    · exact ⟨6, rfl, by omega, by omega⟩
    · exact ⟨11, rfl, by omega, by omega⟩
  obtain ⟨m, hm, hm0, hm1⟩ := hx
  obtain ⟨cs, S2, R2, e2, y2, hl2, ok2⟩ := code_ok (k := 56) y1 hm0 (by omega)
  obtain ⟨S3, R3, e3, y3⟩ := asked_ok (k := 48) ok2 (by omega) y2 true
  obtain ⟨ds, S4, R4, e4, y4, hl4, ok4⟩ := sheet_ok (k := 57) y3
  obtain ⟨S5, R5, e5, y5⟩ := asked_ok (k := 48) ok4 (by omega) y4 true
  refine ⟨S5, R5, (exL_nx (exS_no (tst_of (v := .val (.bl false)) ((ev_orF (x := .val (.bl false)) (S1 := S3) (ev_not (x := .val (.bl true)) ((ev_call (evL_val (ev_var rfl) (evL_val (z := code cs) (S1 := S2) ((ev_call (evL_val (ev_var rfl) (evL_val (z := nI m) (S1 := S1) ?_ evL_nil))).trans e2) (evL_val ev_cst evL_nil)))).trans e3) rfl) rfl).trans (ev_not (x := .val (.bl true)) ((ev_call (evL_val (ev_var rfl) (evL_val ((ev_call (evL_val (ev_var rfl) evL_nil)).trans e4) (evL_val ev_cst evL_nil)))).trans e5) rfl)) rfl))).trans (by rw [exL]), y5⟩
  exact ev_idx (x := .val (.tup [nI (1 + r), nI 6, nI 11])) (y := .val (nI i)) (ev_tup (evL_val (ev_bin (x := .val (nI 1)) (y := .val (nI r)) ev_cst (ev_knot1 (pl := 13) (many := 16) rfl ev_cst e1) (add_nats _ _)) (evL_val (z := nI 6) ev_cst (evL_val (z := nI 11) ev_cst evL_nil))) (by show 3 ≤ SZ; decide)) (ev_var rfl) (idx_tup hm)
theorem loop28 {v0 : PV} {x3 x4 : Option PV} : ∀ (m i : Nat) (S R : Sto) (x2 : Option PV), i + m = 3 → YS S R →
    ∃ S' R' y2, forF ⟨0, []⟩ (.var 2) (fun σ S => exL gl kd (callF PP 59) ⟨0, []⟩ lp28 σ S) ((List.range' i m).map nI) [some v0, some (.ref 2), x2, x3, x4] S = .ok (.nx [some v0, some (.ref 2), y2, x3, x4]) S' ∧ YS S' R'
  | 0, i, S, R, x2, h, y => ⟨S, R, x2, rfl, y⟩
  | m + 1, i, S, R, x2, h, y => by
    obtain ⟨S1, R1, e1, y1⟩ := turn28 (v0 := v0) (x3 := x3) (x4 := x4) (i := i) (by omega) y
    obtain ⟨S', R', y2, e2, r⟩ := loop28 (v0 := v0) (x3 := x3) (x4 := x4) m (i + 1) S1 R1 (some (nI i)) (by omega) y1
    refine ⟨S', R', y2, ?_, r⟩
    rw [List.range'_succ, List.map_cons]
    exact (forF_nx (σ1 := [some v0, some (.ref 2), some (nI i), x3, x4]) rfl e1).trans e2
end K06
end partK06l

section partK06e
set_option linter.all false
set_option maxRecDepth 100000
/-! K06e: the last part of law. -/
namespace K06
open Mp
def ce28 : CE := (CE.tup
                  [CE.tup
                      [CE.cst (PV.str [112, 117, 116]), CE.cst (PV.int (0)), CE.cst (PV.int (1))],
                    CE.tup [CE.cst (PV.str [103, 111]), CE.bin Bop.add (CE.var 4) (CE.cst (PV.int (1)))],
                    CE.tup
                      [CE.cst (PV.str [101, 105, 116, 104, 101, 114]),
                        CE.bin Bop.add (CE.var 4) (CE.cst (PV.int (2)))]]).idx
              (CE.call 17 [CE.var 1, CE.cst (PV.int (14)), CE.cst (PV.int (3))])
theorem lc28 {σ : Env} (h1 : ∀ a : Nat, asgT (.var 4) (nI a) σ = some (σ.set 4 (some (nI a)))) (h2 : ∀ a : Nat, (σ.set 4 (some (nI a)))[1]? = some (some (.ref 2))) (h3 : ∀ a : Nat, (σ.set 4 (some (nI a)))[4]? = some (some (nI a))) : ∀ (m i : Nat) (S R : Sto), YS S R →
    ∃ (cs : List Cmd) (S' : Sto), lcF (lcB gl kd (callF PP 59) ⟨0, []⟩ ce28 (.var 4) [] σ) ((List.range' i m).map nI) S = .ok (cs.map Cmd.pv) S' ∧ YS S' R ∧ cs.length = m ∧ Tle (i + m + 1) cs
  | 0, i, S, R, y => ⟨[], S, rfl, y, rfl, by intro c hc; cases hc⟩
  | m + 1, i, S, R, y => by
    obtain ⟨w, S1, e1, y1, hw, _⟩ := knot_ok (k := 58) (pl := 14) (many := 3) y (by decide) (by decide)
    have hw := hw (by decide)
    obtain ⟨cs, S', e2, y2, hl, ht⟩ := lc28 h1 h2 h3 m (i + 1) S1 R y1
    have hx : ∃ c : Cmd, [Cmd.put.pv, (Cmd.go (i + 1)).pv, (Cmd.either (i + 2)).pv][w]? = some c.pv ∧ ∀ t, c.to = some t → t ≤ i + 2 := by
      rcases (by omega : w = 0 ∨ w = 1 ∨ w = 2) with rfl | rfl | rfl
      · exact ⟨_, rfl, fun t ht => by cases ht⟩
      · exact ⟨_, rfl, fun t ht => by cases ht; omega⟩
      · exact ⟨_, rfl, fun t ht => by cases ht; omega⟩
    obtain ⟨c, hc, hct⟩ := hx
    refine ⟨c :: cs, S', ?_, y2, by rw [List.length_cons, hl], fun d hd => ?_⟩
    · rw [List.range'_succ, List.map_cons, lcF, lcB_yes (u := c.pv) (S2 := S1) (h1 i) evT_nil ?_, Mp.R.bind_ok, e2, Mp.R.bind_ok]
      · rfl
      · exact ev_idx (x := .val (.tup [Cmd.put.pv, (Cmd.go (i + 1)).pv, (Cmd.either (i + 2)).pv])) (y := .val (nI w)) (ev_tup (evL_val (ev_tup3 ev_cst ev_cst ev_cst) (evL_val (ev_tup2 ev_cst (ev_bin (x := .val (nI i)) (y := .val (nI 1)) (ev_var (h3 i)) ev_cst (add_nats _ _))) (evL_val (ev_tup2 ev_cst (ev_bin (x := .val (nI i)) (y := .val (nI 2)) (ev_var (h3 i)) ev_cst (add_nats _ _))) evL_nil))) (by show 3 ≤ SZ; decide)) (ev_knot1 (pl := 14) (many := 3) (h2 i) ev_cst e1) (idx_tup hc)
    · rcases List.mem_cons.mp hd with rfl | hd
      · exact fun t ht' => Nat.le_trans (hct t ht') (by omega)
      · exact fun t ht' => Nat.le_trans (ht d hd t ht') (by omega)
theorem law_ok (ns : List Int) (hn : ns.length ≤ 63) : ∃ S', callF PP 60 ⟨0, []⟩ 28 [.rol ns] [] = .ok (.val (.bl true)) S' := by
  have hz : SZ = 16777216 := rfl
  obtain ⟨hs, t, e0, hl⟩ := yarn_ok (k := 58) (ns := ns) hn
  have y0 : YS (Yarn hs t 0 [] []) [] := ⟨hs, t, 0, [], by omega, ⟨List.nodup_nil, by intro x hx; cases hx⟩, rfl⟩
  let σ1 : Env := [some (.rol ns), some (.ref 2), none, none, none]
  have s1 : exS gl kd (callF PP 59) ⟨0, []⟩ (b28.getD 0 .bad) [some (.rol ns), none, none, none, none] [] = .ok (.nx σ1) (Yarn hs t 0 [] []) :=
    exS_asg (evP_tmp ((ev_call (evL_val (ev_var rfl) evL_nil)).trans e0)) rfl
  have s2 : exS gl kd (callF PP 59) ⟨0, []⟩ (b28.getD 1 .bad) σ1 (Yarn hs t 0 [] []) = .ok (.nx σ1) (Yarn hs t 0 [] []) :=
    exS_no (tst_of (ev_not (x := .val (.bl true)) ((ev_call evL_nil).trans hand_ok) rfl) rfl)
  obtain ⟨S1, R1, x2, e1, y1⟩ := loop28 (v0 := .rol ns) (x3 := none) (x4 := none) 3 0 _ _ none rfl y0
  let σ2 : Env := [some (.rol ns), some (.ref 2), x2, none, none]
  have s3 : exS gl kd (callF PP 59) ⟨0, []⟩ (b28.getD 2 .bad) σ1 (Yarn hs t 0 [] []) = .ok (.nx σ2) S1 :=
    (exS_frr (evI_rng1 (j := Int.ofNat 3) ev_cst (rngW_nat (by decide)))).trans e1
  have q : ∃ b : Bool, tst gl kd (callF PP 59) ⟨0, []⟩ (CE.cmp Cop.ne
      (CE.bin Bop.mod
        (CE.blt Blt.int
          [CE.bin Bop.fdiv ((CE.var 1).idx (CE.cst (PV.int (1)))) (CE.cst (PV.int (5)))])
        (CE.cst (PV.int (7))))
      (CE.cst (PV.int (6)))) σ2 S1 = .ok b S1 := by
    obtain ⟨hs1, t1, c1, ps1, _, _, rfl⟩ := y1
    refine ⟨!decide (t1 / 5 % 7 = 6), tst_of (v := .val (.bl (!decide (t1 / 5 % 7 = 6)))) (ev_cmp (x := .val (.int (t1 / 5 % 7))) (y := .val (.int 6)) (ev_bin (ev_blt1 (ev_bin (x := .val (.int t1)) (ev_idx (x := .val (.ref 2)) (y := .val (nI 1)) (ev_var rfl) ev_cst (idx_lst (xs := [PV.ref 0, .int t1, .int c1, .ref 1]) rfl rfl)) ev_cst (b_div _ _ (by decide) (by decide))) rfl) ev_cst (b_mod _ _ (by decide))) ev_cst ?_) rfl⟩
    show (eqE (.val (.int (t1 / 5 % 7))) (.val (.int 6)) (Yarn hs1 t1 c1 ps1 R1)).map not = _
    rw [eq_int]
    rfl
  obtain ⟨b, q⟩ := q
  have go : ∀ S', exL gl kd (callF PP 59) ⟨0, []⟩ (b28.drop 3) σ2 S1 = .ok (.rt (.val (.bl true))) S' → ∃ S', callF PP 60 ⟨0, []⟩ 28 [.rol ns] [] = .ok (.val (.bl true)) S' := fun S' e =>
    ⟨S', call_raw (d := e28) rfl rfl rfl ((exL_nx s1).trans ((exL_nx s2).trans ((exL_nx s3).trans e)))⟩
  cases b with
  | true => exact go S1 (exL_rt (exS_yes q (exL_rt (exS_ret ev_cst))))
  | false =>
    obtain ⟨cs, S2, e2, y2, hl2, ht2⟩ := lc28 (σ := σ2) (fun _ => rfl) (fun _ => rfl) (fun _ => rfl) 119 0 S1 R1 y1
    let σ3 : Env := [some (.rol ns), some (.ref 2), x2, some (cds cs), none]
    have s5 : exS gl kd (callF PP 59) ⟨0, []⟩ (b28.getD 4 .bad) σ2 S1 = .ok (.nx σ3) S2 := by
      refine exS_asg (x := cds cs) (evP_val (ev_blt1 (x := .tmp (.lst (cs.map Cmd.pv))) ?_ rfl)) rfl
      exact ev_lc (evI_rng1 (j := Int.ofNat 119) ev_cst (rngW_nat (by decide))) e2 (by rw [List.length_map, hl2]; decide)
    let ds : List Cmd := cs ++ [.put2] ++ [.stop]
    have hd : ds.length = 121 := by simp [ds, hl2]
    have okd : OkC ds := okC_of (by
      intro c hc t ht
      show t < ds.length
      rw [hd]
      rcases List.mem_append.mp hc with h | h
      · rcases List.mem_append.mp h with h | h
        · have := ht2 c h t ht; omega
        · have : c = .put2 := by simpa using h
          subst this; cases ht
      · have : c = .stop := by simpa using h
        subst this; cases ht) rfl
    obtain ⟨S3, R3, e3, y3⟩ := asked_ok (k := 48) okd (by omega) y2 false
    obtain ⟨fs, S4, R4, e4, y4, hl4, ok4⟩ := code_ok (k := 56) (many := 121) y3 (by decide) (by decide)
    obtain ⟨S5, R5, e5, y5⟩ := asked_ok (k := 48) ok4 (by omega) y4 false
    refine go S5 ((exL_nx (exS_no q)).trans ((exL_nx s5).trans (exL_rt (exS_ret ((ev_andT (x := .val (.bl true)) (S1 := S3) ((ev_call (evL_val (ev_var rfl) (evL_val (z := code ds) ?_ (evL_val ev_cst evL_nil)))).trans e3) rfl).trans ((ev_call (evL_val (ev_var rfl) (evL_val ((ev_call (evL_val (ev_var rfl) (evL_val (z := nI 121) ev_cst evL_nil))).trans e4) (evL_val ev_cst evL_nil)))).trans e5))))))
    refine ev_tup2 (v := .tup [.int 2]) (w := cds ds) (ev_tup (evL_val ev_cst evL_nil) (by show 1 ≤ SZ; decide)) (ev_bin (x := .val (cds cs)) (y := .val (.tup [Cmd.put2.pv, Cmd.stop.pv])) (ev_var rfl) (ev_tup2 (ev_tup3 ev_cst ev_cst ev_cst) (ev_tup (evL_val ev_cst evL_nil) (by show 1 ≤ SZ; decide))) ?_)
    refine (bin_tups _ _ (by rw [List.length_map, hl2]; decide)).trans ?_
    show _ = some (EV.val (.tup ((cs ++ [Cmd.put2] ++ [Cmd.stop]).map Cmd.pv)))
    rw [List.map_append, List.map_append, List.append_assoc]
    rfl
end K06
end partK06e

section partK06z
set_option Elab.async false
set_option linter.all false
set_option maxRecDepth 100000
set_option maxHeartbeats 0
namespace K06
open PySem PySem.Spec PyProof.Rows L2 Mp
theorem plain : ∀ ns : List Int, ns.length ≤ 63 → ∃ S', callF L.P 60 ⟨0, []⟩ lawJ [.rol ns] [] = .ok (.val (.bl true)) S' := by
  intro ns h
  rw [show L.P = PP from by kernel_rfl]
  exact law_ok ns h
end K06
open PySem PySem.W PySem.Calls PyProof.Rows
theorem PySem.Challenge.cw_villageboard_k06_next_dead_short_holds : PySem.Challenge.rw_villageboard_k06_next_dead_short.Holds := by
  w_on; o_law
  refine HandSHeadRun.head_any (r := K06.R) (q := view K06.R.prog [K06.lawIx]) (H := K06.hk) (ob := K06.ob) (M := 20000) (loose := K06.loose) (d := HandSHeadRun.topDef K06.R.prog K06.lawIx) (kwd := []) K06.ob_eq (by kernel_rfl)
    (fun s => by kernel_rfl) K06.run (by kernel_rfl) (by kernel_rfl) (by kernel_rfl) (by rfl) (by first | assumption | decide +kernel) (by decide +kernel) ⟨rfl, rfl, rfl, rfl, rfl, by decide +kernel⟩ ?hw ?hc
  case hw => w_witness2
  case hc => exact Mp.law_walk (k := 60) (i := K06.lawJ) K06.txt rfl (by kernel_rfl) ⟨rfl, by decide, by decide⟩ rfl (by kernel_rfl) rfl K06.plain
end partK06z
